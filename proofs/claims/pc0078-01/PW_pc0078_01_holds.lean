import PyProof.Rows.All
import Wide.All
import OpenK.AllK
import Wide.FinOn
import PySem.Challenge.RW_pc0078_01
open PySem PySem.W PyProof.Rows PySem.Calls
set_option Elab.async false
set_option maxRecDepth 100000
set_option linter.unusedVariables false
set_option linter.unusedSimpArgs false
set_option exponentiation.threshold 10000
set_option bootstrap.genMatcherCode false
namespace Mine
noncomputable section
noncomputable abbrev pw : Program := PySem.Challenge.pw_pc0078_01
noncomputable def st (i : Nat) : Stmt := (pw.main.body[i]?).getD (.Pass default)
noncomputable def clsBody : Stmt → List Stmt
  | .ClassDef _ _ _ b _ _ _ _ _ _ _ => b
  | _ => []
noncomputable def mt (i j : Nat) : Stmt := ((clsBody (st i))[j]?).getD (.Pass default)
noncomputable def fArgs : Stmt → Arguments
  | .FunctionDef _ a _ _ _ _ _ _ _ _ => a
  | _ => default
noncomputable def fBody : Stmt → List Stmt
  | .FunctionDef _ _ b _ _ _ _ _ _ _ => b
  | _ => []
noncomputable def fScope : Stmt → Scope
  | .FunctionDef _ _ _ _ _ _ s _ _ _ => s
  | _ => default
noncomputable abbrev R (a : Nat) : Value := .ref a
noncomputable abbrev I (i : Int) (t : Nat) : Value := .int i t
noncomputable abbrev S (s : String) (t : Nat) : Value := .str (Str.ofString s) t
noncomputable def E (P : Params) (s : String) (t : Nat) (v : Value) : DictEntry := ⟨PyData.keyHash P (Str.ofString s), .str (Str.ofString s) t, v⟩
noncomputable def Tp (l : List Value) : Obj := { cls := .type "tuple", data := .seq (Array.mk l) }
noncomputable def Fd (l : List Value) : Obj := { cls := .none, data := .fields (Array.mk l) }
noncomputable def FdC (c : Value) (l : List Value) : Obj := { cls := c, data := .fields (Array.mk l) }
noncomputable def Dc (c : Value) (es : List DictEntry) (n : Nat) : Obj := { cls := c, data := .dict (Array.mk es) n }
noncomputable def Cl (n : String) (bases mro : List Value) (ns : Nat) (sl : Array (Option Value)) : Obj :=
  { cls := .type "type", data := .cls { name := Str.ofString n, bases := bases, mro := mro, ns := ns, qualname := Str.ofString n }, slots := sl }
noncomputable def fdOf (s : Stmt) (name qual : String) (pm code : Value) (g : Nat) : FuncData :=
  { name := Str.ofString name, qualname := Str.ofString qual, params := fArgs s, body := .stmts (fBody s), scope := fScope s, globals := g, closure := [], defaults := .none, kwdefaults := .none, pyModule := pm, code := code }
noncomputable def nameToks : List String → Nat → List Value
  | [], _ => []
  | s :: r, t => S s t :: nameToks r (t + 1)
noncomputable def Df (s : Stmt) (name qual : String) (t line argc : Nat) (vars : Option (List String)) (pm : Value) (a : Nat) : List Obj :=
  match vars with
  | some vs => [Tp [], Fd [], Tp (nameToks vs (t + 3)), Tp [], { cls := .none, data := .func (fdOf s name qual .none .none 0) },
      FdC (.type "code") [S name t, S qual (t + 1), S "/claim/cut.py" (t + 2), I line 0, I argc 0, I 0 0, I 0 0, I 3 0, R a, .bool true, I 181 0, R (a + 1), .none, R (a + 2), R (a + 3), R (a + 4), I ((t + 3 + vs.length : Nat) : Int) 0, I line 0, S "/claim/cut.py" (t + 4 + vs.length)],
      { cls := .type "function", data := .func (fdOf s name qual pm (R (a + 5)) 3) }]
  | none => [Tp [], Fd [], { cls := .none, data := .func (fdOf s name qual .none .none 0) },
      FdC (.type "code") [S name t, S qual (t + 1), S "/claim/cut.py" (t + 2), I line 0, I argc 0, I 0 0, I 0 0, I 3 0, R a, .bool true, I 181 0, R (a + 1), .none, .none, .none, R (a + 2), I ((t + 3 : Nat) : Int) 0, I line 0, S "/claim/cut.py" (t + 4)],
      { cls := .type "function", data := .func (fdOf s name qual pm (R (a + 3)) 3) }]
noncomputable def mainL (P : Params) : List DictEntry := [
  E P "__doc__" 166 (.none),
  E P "__package__" 167 (.none),
  E P "__loader__" 168 (.builtin "__main__.__loader__#opaque"),
  E P "__spec__" 169 (.none),
  E P "__annotations__" 170 (R 6),
  E P "__builtins__" 171 (R 4),
  E P "__file__" 173 (S "/claim/cut.py" 172),
  E P "__cached__" 174 (.none),
  E P "SIGN_BIT" 192 (I 9223372036854775808 191),
  E P "FRACTION_BITS" 194 (I 52 193),
  E P "FRACTION_MASK" 200 (I 4503599627370495 199),
  E P "HIDDEN_BIT_dbits" 204 (I 4503599627370496 203),
  E P "EXPONENT_MASK" 206 (I 2047 205),
  E P "EXPONENT_SHIFT" 208 (I 1075 207),
  E P "LEAST_POWER_dbits" 211 (I (-1074) 210),
  E P "ZERO" 213 (I 0 212),
  E P "NEG_ZERO" 217 (I 9223372036854775808 216),
  E P "INF" 221 (I 9218868437227405312 220),
  E P "width" 230 (R 21),
  E P "pack" 239 (R 28),
  E P "is_negative" 246 (R 35),
  E P "is_nan" 253 (R 42),
  E P "is_inf" 260 (R 49),
  E P "is_finite" 267 (R 56),
  E P "is_zero" 274 (R 63),
  E P "signed" 282 (R 70),
  E P "parts" 292 (R 77),
  E P "quotient" 301 (R 84),
  E P "round_ratio" 314 (R 91),
  E P "assembled" 324 (R 98),
  E P "FARTHEST" 328 (I 400 327),
  E P "figure_of" 335 (R 105),
  E P "run_end" 344 (R 112),
  E P "worth" 356 (R 119),
  E P "from_decimal" 367 (R 126),
  E P "sign_at" 375 (R 133),
  E P "turned" 383 (R 140),
  E P "exponent_at" 395 (R 147),
  E P "JSFail" 428 (R 164),
  E P "JSON_BLANKS" 432 (S " \t\n\x0d" 431),
  E P "JSON_DIGITS" 434 (S "0123456789" 433),
  E P "JSON_HEX" 436 (S "0123456789abcdefABCDEF" 435),
  E P "JSON_ESCAPES" 461 (R 168),
  E P "JSON_WORDS" 468 (R 175),
  E P "JSON_CLOSERS" 475 (R 176),
  E P "refuse_json" 483 (R 183),
  E P "json_sign" 491 (R 190),
  E P "skip_json_blanks" 499 (R 197),
  E P "json_number" 515 (R 204),
  E P "json_hex_unit" 524 (R 211),
  E P "json_string" 534 (R 218),
  E P "json_plain" 547 (R 225),
  E P "JsonReader" 631 (R 284),
  E P "read_json" 638 (R 295),
  E P "LEAST_POWER_numshow" 643 (I (-1074) 642),
  E P "HIDDEN_BIT_numshow" 647 (I 4503599627370496 646),
  E P "scaled" 658 (R 302),
  E P "decimal_place" 667 (R 309),
  E P "first_place" 680 (R 316),
  E P "shortest" 701 (R 323),
  E P "last_figure" 712 (R 330),
  E P "signed_exponent" 719 (R 337),
  E P "with_exponent" 728 (R 344),
  E P "laid_out" 737 (R 351),
  E P "without_figures" 744 (R 358),
  E P "show" 754 (R 365),
  E P "JSON_SMALL_HEX" 758 (S "0123456789abcdef" 757),
  E P "JSON_SHORT" 780 (R 366),
  E P "json_quoted_sign" 788 (R 373),
  E P "json_quoted" 794 (R 378),
  E P "json_number_text" 801 (R 385),
  E P "json_plain_text" 810 (R 392),
  E P "json_rows" 822 (R 399),
  E P "json_laid" 828 (R 404),
  E P "show_json" 836 (R 411),
  E P "_law_signs" 844 (R 418),
  E P "_law_short" 850 (R 425),
  E P "_law_next" 858 (R 432),
  E P "_law_double" 874 (R 439),
  E P "_law_number" 890 (R 446),
  E P "_law_number_right" 902 (R 453),
  E P "_law_string" 908 (R 458),
  E P "law" 914 (R 463)]
noncomputable def c12L : List (Int × Nat) := [(12, 20), (22, 27), (24, 34), (26, 41), (28, 48), (30, 55), (32, 62), (34, 69), (36, 76), (41, 83), (47, 90), (58, 97), (69, 104), (75, 111), (79, 118), (84, 125), (95, 132), (99, 139), (101, 146), (111, 153), (123, 182), (127, 189), (129, 196), (133, 203), (147, 210), (152, 217), (172, 224), (183, 231), (247, 294), (252, 301), (259, 308), (264, 315), (272, 322), (293, 329), (299, 336), (301, 343), (304, 350), (313, 357), (319, 364), (330, 372), (337, 377), (339, 384), (341, 391), (348, 398), (355, 403), (367, 410), (372, 417), (374, 424), (376, 431), (379, 438), (397, 445), (412, 452), (422, 457), (442, 462)]
noncomputable def mainD (P : Params) (nm : Value) (c : Nat) : Obj := Dc (.type "dict") (E P "__name__" 165 nm :: (mainL P).take c) (c + 1)
noncomputable def mainC (k : Nat) : List Value := ((c12L.take k).map fun x => [I x.1 0, I 0 0, R x.2]).flatten
noncomputable def cst (P : Params) : Bool → Obj
  | false => boot_o_2 P
  | true => Dc .none [E P "type.__subclasses__.Exception.0" 425 (I 164 0), E P "type.__subclasses__.Exception.n" 426 (I 1 0)] 2
noncomputable def objs (P : Params) (x : Bool) (nm : Value) (c c12 : Nat) : List Obj := List.flatten [
  [W.boot_o_0 P,
    W.boot_o_1 P,
    cst P x,
    mainD P nm c,
    W.boot_o_4 P,
    W.boot_o_5 P,
    W.boot_o_6 P,
    W.boot_o_7 P,
    W.boot_o_8 P,
    W.boot_o_9 P,
    W.boot_o_10 P,
    Tp [],
    Fd (mainC c12),
    FdC (.type "code") [S "<module>" 182, S "<module>" 183, S "/claim/cut.py" 184, I 1 0, I 0 0, I 0 0, I 0 0, I 0 0, R 11, .bool false, I 181 0, R 12, .none, .none, .none, .none, I 185 0, I 1 0, S "/claim/cut.py" 186],
    { cls := .type "frame", dict := Option.none, slots := #[some (R 13), some (R 3), some (R 3), Option.none, some (S "__main__" 164), Option.none, some (R 0)] }],
  Df (st 11) "width" "width" 222 12 1 (some ["n", "many", "step"]) (S "js.dbits" 187) 15,
  Df (st 12) "pack" "pack" 231 22 3 (some ["sign", "exponent", "fraction"]) (S "js.dbits" 187) 22,
  Df (st 13) "is_negative" "is_negative" 240 24 1 (some ["bits"]) (S "js.dbits" 187) 29,
  Df (st 14) "is_nan" "is_nan" 247 26 1 (some ["bits"]) (S "js.dbits" 187) 36,
  Df (st 15) "is_inf" "is_inf" 254 28 1 (some ["bits"]) (S "js.dbits" 187) 43,
  Df (st 16) "is_finite" "is_finite" 261 30 1 (some ["bits"]) (S "js.dbits" 187) 50,
  Df (st 17) "is_zero" "is_zero" 268 32 1 (some ["bits"]) (S "js.dbits" 187) 57,
  Df (st 18) "signed" "signed" 275 34 2 (some ["sign", "bits"]) (S "js.dbits" 187) 64,
  Df (st 19) "parts" "parts" 283 36 1 (some ["bits", "sign", "exponent", "fraction"]) (S "js.dbits" 187) 71,
  Df (st 20) "quotient" "quotient" 293 41 3 (some ["top", "bottom", "power"]) (S "js.dbits" 187) 78,
  Df (st 21) "round_ratio" "round_ratio" 302 47 3 (some ["sign", "top", "bottom", "power", "whole", "rest", "unit"]) (S "js.dbits" 187) 85,
  Df (st 22) "assembled" "assembled" 315 58 3 (some ["sign", "whole", "power", "exponent"]) (S "js.dbits" 187) 92,
  Df (st 25) "figure_of" "figure_of" 329 69 1 (some ["sign"]) (S "js.numparse" 325) 99,
  Df (st 26) "run_end" "run_end" 336 75 3 (some ["text", "at", "radix"]) (S "js.numparse" 325) 106,
  Df (st 27) "worth" "worth" 345 79 4 (some ["text", "begin", "end", "radix", "found", "at"]) (S "js.numparse" 325) 113,
  Df (st 28) "from_decimal" "from_decimal" 357 84 2 (some ["figures", "exponent", "told", "place", "number"]) (S "js.numparse" 325) 120,
  Df (st 29) "sign_at" "sign_at" 368 95 2 (some ["text", "at"]) (S "js.numparse" 325) 127,
  Df (st 30) "turned" "turned" 376 99 2 (some ["bits", "is_minus"]) (S "js.numparse" 325) 134,
  Df (st 31) "exponent_at" "exponent_at" 384 101 2 (some ["text", "at", "is_minus", "begin", "end", "far"]) (S "js.numparse" 325) 141,
  [Tp [.type "Exception"],
    FdC (.type "builtin_function_or_method") [.builtin "type.__prepare__", .type "type"],
    Dc (.type "dict") [E P "__module__" 405 (S "js.values" 396), E P "__qualname__" 407 (S "JSFail" 406), E P "__firstlineno__" 409 (I 111 408), E P "__init__" 418 (R 161), E P "__static_attributes__" 421 (R 162)] 5,
    Tp [],
    Fd [I 113 0, I 4 0, R 160],
    FdC (.type "code") [S "JSFail" 400, S "JSFail" 401, S "/claim/cut.py" 402, I 111 0, I 0 0, I 0 0, I 0 0, I 0 0, R 151, .bool false, I 181 0, R 152, .none, .none, .none, .none, I 403 0, I 111 0, S "/claim/cut.py" 404],
    { cls := .type "frame", dict := Option.none, slots := #[some (R 153), some (R 3), some (R 150), Option.none, some (S "js.values" 396), Option.none, some (R 0)] }],
  Df (mt 33 0) "__init__" "JSFail.__init__" 410 113 3 (some ["self", "kind", "text"]) (S "js.values" 396) 155,
  [Tp [S "kind" 419, S "text" 420],
    Dc (.type "dict") [E P "__module__" 405 (S "js.values" 396), E P "__firstlineno__" 409 (I 111 408), E P "__init__" 418 (R 161), E P "__static_attributes__" 421 (R 162), E P "__weakref__" 423 (R 165), E P "__doc__" 424 (.none)] 3,
    Cl "JSFail" [.type "Exception"] [R 164, .type "Exception", .type "BaseException", .type "object"] 163 #[some (R 148), Option.none, some (S "JSFail" 398), some (S "JSFail" 406), some (.builtin "Exception.__new__"), some (.bool true)],
    FdC (.type "getset_descriptor") [S "__weakref__" 422, R 164, .builtin "ExceptionGroup.__weakref__", .none],
    FdC (.type "super") [R 164, R 164, R 164],
    FdC (.type "builtin_function_or_method") [.builtin "object.__init_subclass__", R 164],
    Dc (.type "dict") [E P "\"" 437 (S "\"" 438), E P "\\" 439 (S "\\" 440), E P "/" 441 (S "/" 442), E P "b" 443 (S "\x08" 444), E P "f" 445 (S "\x0c" 446), E P "n" 447 (S "\n" 448), E P "r" 449 (S "\x0d" 450), E P "t" 451 (S "\t" 452)] 8,
    Tp [S "null" 463, .none],
    Tp [S "null" 462, R 169],
    Tp [S "bool" 465, .bool true],
    Tp [S "true" 464, R 171],
    Tp [S "bool" 467, .bool false],
    Tp [S "false" 466, R 173],
    Tp [R 170, R 172, R 174],
    Dc (.type "dict") [E P "array" 469 (S "]" 470), E P "object" 471 (S "}" 472)] 2],
  Df (st 41) "refuse_json" "refuse_json" 476 123 2 (some ["text", "at"]) (S "js.jsonread" 429) 177,
  Df (st 42) "json_sign" "json_sign" 484 127 2 (some ["text", "at"]) (S "js.jsonread" 429) 184,
  Df (st 43) "skip_json_blanks" "skip_json_blanks" 492 129 2 (some ["text", "at"]) (S "js.jsonread" 429) 191,
  Df (st 44) "json_number" "json_number" 500 133 2 (some ["text", "at", "is_minus", "begin", "point", "figures", "end", "behind", "exponent", "last"]) (S "js.jsonread" 429) 198,
  Df (st 45) "json_hex_unit" "json_hex_unit" 516 147 2 (some ["text", "at", "spot"]) (S "js.jsonread" 429) 205,
  Df (st 46) "json_string" "json_string" 525 152 2 (some ["text", "at", "found", "sign"]) (S "js.jsonread" 429) 212,
  Df (st 47) "json_plain" "json_plain" 535 172 2 (some ["text", "at", "word", "tree", "told", "end", "bits"]) (S "js.jsonread" 429) 219,
  [Tp [],
    FdC (.type "builtin_function_or_method") [.builtin "type.__prepare__", .type "type"],
    Dc (.type "dict") [E P "__module__" 555 (S "js.jsonread" 429), E P "__qualname__" 557 (S "JsonReader" 556), E P "__firstlineno__" 559 (I 183 558), E P "__init__" 567 (R 239), E P "skip" 574 (R 246), E P "take_key" 582 (R 253), E P "opened" 590 (R 260), E P "next_tree" 599 (R 267), E P "settled" 610 (R 274), E P "whole" 619 (R 281), E P "__static_attributes__" 624 (R 282)] 11,
    Tp [],
    Fd [I 185 0, I 4 0, R 238, I 191 0, I 4 0, R 245, I 195 0, I 4 0, R 252, I 203 0, I 4 0, R 259, I 213 0, I 4 0, R 266, I 222 0, I 4 0, R 273, I 238 0, I 4 0, R 280],
    FdC (.type "code") [S "JsonReader" 550, S "JsonReader" 551, S "/claim/cut.py" 552, I 183 0, I 0 0, I 0 0, I 0 0, I 0 0, R 229, .bool false, I 181 0, R 230, .none, .none, .none, .none, I 553 0, I 183 0, S "/claim/cut.py" 554],
    { cls := .type "frame", dict := Option.none, slots := #[some (R 231), some (R 3), some (R 228), Option.none, some (S "js.jsonread" 429), Option.none, some (R 0)] }],
  Df (mt 48 0) "__init__" "JsonReader.__init__" 560 185 2 (some ["self", "text"]) (S "js.jsonread" 429) 233,
  Df (mt 48 1) "skip" "JsonReader.skip" 568 191 1 (some ["self"]) (S "js.jsonread" 429) 240,
  Df (mt 48 2) "take_key" "JsonReader.take_key" 575 195 1 (some ["self", "key"]) (S "js.jsonread" 429) 247,
  Df (mt 48 3) "opened" "JsonReader.opened" 583 203 2 (some ["self", "kind"]) (S "js.jsonread" 429) 254,
  Df (mt 48 4) "next_tree" "JsonReader.next_tree" 591 213 1 (some ["self", "sign", "tree"]) (S "js.jsonread" 429) 261,
  Df (mt 48 5) "settled" "JsonReader.settled" 600 222 2 (some ["self", "tree", "kind", "items", "sign"]) (S "js.jsonread" 429) 268,
  Df (mt 48 6) "whole" "JsonReader.whole" 611 238 1 (some ["self", "found", "tree"]) (S "js.jsonread" 429) 275,
  [Tp [S "at" 620, S "keys" 621, S "text" 622, S "waiting" 623],
    Dc (.type "dict") [E P "__module__" 555 (S "js.jsonread" 429), E P "__firstlineno__" 559 (I 183 558), E P "__init__" 567 (R 239), E P "skip" 574 (R 246), E P "take_key" 582 (R 253), E P "opened" 590 (R 260), E P "next_tree" 599 (R 267), E P "settled" 610 (R 274), E P "whole" 619 (R 281), E P "__static_attributes__" 624 (R 282), E P "__dict__" 626 (R 285), E P "__weakref__" 628 (R 286), E P "__doc__" 629 (.none)] 4,
    Cl "JsonReader" [.type "object"] [R 284, .type "object"] 283 #[Option.none, Option.none, some (S "JsonReader" 548), some (S "JsonReader" 556), some (.builtin "object.__new__"), some (.bool true)],
    FdC (.type "getset_descriptor") [S "__dict__" 625, R 284, .builtin "function.__dict__", .builtin "function.__dict__#set"],
    FdC (.type "getset_descriptor") [S "__weakref__" 627, R 284, .builtin "ExceptionGroup.__weakref__", .none],
    FdC (.type "super") [R 284, R 284, R 284],
    FdC (.type "builtin_function_or_method") [.builtin "object.__init_subclass__", R 284]],
  Df (st 49) "read_json" "read_json" 632 247 1 (some ["text"]) (S "js.jsonread" 429) 289,
  Df (st 53) "scaled" "scaled" 648 252 2 (some ["mantissa", "power", "is_edge", "factor", "above"]) (S "js.numshow" 639) 296,
  Df (st 54) "decimal_place" "decimal_place" 659 259 2 (some ["top", "bottom", "found"]) (S "js.numshow" 639) 303,
  Df (st 55) "first_place" "first_place" 668 264 4 (some ["number", "above", "unit", "is_even", "found", "edge", "limit"]) (S "js.numshow" 639) 310,
  Df (st 56) "shortest" "shortest" 681 272 1 (some ["bits", "sign", "mantissa", "power", "is_even", "number", "above", "below", "unit", "place", "factor", "found", "figure", "is_low", "is_high"]) (S "js.numshow" 639) 317,
  Df (st 57) "last_figure" "last_figure" 702 293 5 (some ["figure", "rest", "unit", "is_low", "is_high"]) (S "js.numshow" 639) 324,
  Df (st 58) "signed_exponent" "signed_exponent" 713 299 1 (some ["exponent"]) (S "js.numshow" 639) 331,
  Df (st 59) "with_exponent" "with_exponent" 720 301 2 (some ["figures", "exponent", "rest"]) (S "js.numshow" 639) 338,
  Df (st 60) "laid_out" "laid_out" 729 304 2 (some ["figures", "place", "size"]) (S "js.numshow" 639) 345,
  Df (st 61) "without_figures" "without_figures" 738 313 1 (some ["bits"]) (S "js.numshow" 639) 352,
  Df (st 62) "show" "show" 745 319 1 (some ["bits", "told", "figures", "place"]) (S "js.numshow" 639) 359,
  [Dc (.type "dict") [E P "\"" 759 (S "\\\"" 760), E P "\\" 761 (S "\\\\" 762), E P "\x08" 763 (S "\\b" 764), E P "\x0c" 765 (S "\\f" 766), E P "\n" 767 (S "\\n" 768), E P "\x0d" 769 (S "\\r" 770), E P "\t" 771 (S "\\t" 772)] 7],
  Df (st 66) "json_quoted_sign" "json_quoted_sign" 781 330 1 (some ["sign", "unit"]) (S "js.jsonshow" 755) 367,
  Df (st 67) "json_quoted" "json_quoted" 789 337 1 Option.none (S "js.jsonshow" 755) 374,
  Df (st 68) "json_number_text" "json_number_text" 795 339 1 (some ["bits"]) (S "js.jsonshow" 755) 379,
  Df (st 69) "json_plain_text" "json_plain_text" 802 341 1 (some ["tree", "kind", "value"]) (S "js.jsonshow" 755) 386,
  Df (st 70) "json_rows" "json_rows" 811 348 5 (some ["opener", "closer", "some", "gap", "indent", "row"]) (S "js.jsonshow" 755) 393,
  Df (st 71) "json_laid" "json_laid" 823 355 3 Option.none (S "js.jsonshow" 755) 400,
  Df (st 72) "show_json" "show_json" 829 367 2 (some ["tree", "gap"]) (S "js.jsonshow" 755) 405,
  Df (st 74) "_law_signs" "_law_signs" 839 372 0 (some []) (S "law_pc0078_01" 837) 412,
  Df (st 75) "_law_short" "_law_short" 845 374 0 (some []) (S "law_pc0078_01" 837) 419,
  Df (st 76) "_law_next" "_law_next" 851 376 2 (some ["strip", "many"]) (S "law_pc0078_01" 837) 426,
  Df (st 77) "_law_double" "_law_double" 859 379 3 (some ["is_below", "top", "bottom", "sign", "lift", "more", "upper", "lower", "whole", "rest"]) (S "law_pc0078_01" 837) 433,
  Df (st 78) "_law_number" "_law_number" 875 397 1 (some ["strip", "is_below", "some", "figures", "behind", "lift", "mark", "text", "top", "bits"]) (S "law_pc0078_01" 837) 440,
  Df (st 79) "_law_number_right" "_law_number_right" 891 412 1 (some ["strip", "text", "bits", "whole", "is_plain", "shown"]) (S "law_pc0078_01" 837) 447,
  Df (st 80) "_law_string" "_law_string" 903 422 1 Option.none (S "law_pc0078_01" 837) 454,
  Df (st 81) "law" "law" 909 442 1 Option.none (S "law_pc0078_01" 837) 459]
noncomputable def evs : List Obj → List Obj
  | [] => []
  | [a] => [a]
  | a :: _ :: r => a :: evs r
noncomputable def btOf : Nat → List Obj → BT
  | 0, _ => .nil
  | _ + 1, [] => .nil
  | k + 1, o :: r => .node o (btOf k (evs r)) (btOf k (evs r.tail))
noncomputable def tr (x : Bool) (nm : Value) (c c12 n : Nat) (P : Params) : BT := btOf 10 ((objs P x nm c c12).take n)
noncomputable abbrev gs : Array GenState := Array.mk []
noncomputable abbrev dr : Drawn := {}
noncomputable abbrev tS (x : Bool) (nm : Value) (c c12 n tk : Nat) (w : World) (os : OsState) : SharedT := { tree := tr x nm c c12 n w.params, n := n, life := {}, gens := gs, drawn := dr, toks := tk, os := os }
noncomputable def env0 : Env := { scope := pw.main.scope, locals := mainNs, globals := mainNs, cells := [], code := .ref 13, frame := some 14 }
noncomputable abbrev cE : Code := .body (behindTheImports pw) env0
noncomputable abbrev p0 : Pos := ⟨0, 0, 0, 0⟩
noncomputable abbrev B0 : List Frame := [topFrame p0]
noncomputable abbrev ann0 : Option Value := some (.ref 6)
noncomputable def cutS (i n : Nat) : List Stmt := ((behindTheImports pw).drop i).take n
noncomputable abbrev nmB : Value := S "__main__" 164
noncomputable abbrev nm1 : Value := S "js.values" 396
noncomputable abbrev nm2 : Value := S "js.jsonread" 429
noncomputable abbrev nm3 : Value := S "js.numshow" 639
noncomputable abbrev nm4 : Value := S "law_pc0078_01" 837
noncomputable def H1 (P : Params) : Heap := ⟨Array.mk (objs P true nm4 83 55), {}⟩
noncomputable def Ha (P : Params) : Heap := ⟨Array.mk ((objs P false nmB 8 0).take 15), {}⟩
theorem segT : @segRunT = @PySem.W.Fast.tw10110043849684766642 := PySem.W.Fast.te10110043849684766642
theorem tabT : treeTable = PySem.W.Fast.tw14364793385576792824 := PySem.W.Fast.te14364793385576792824
theorem run_pre (w : World) : (fun os => topGo treeTable pw w 11 ann0 12 ⟨boot_heap w.params, gs, boot_drawn, boot_toks, os⟩ (topStub pw)) =
    fun os => some (⟨Ha w.params, gs, dr, 187, os⟩, ⟨denote treeTable cE, cE, p0, B0⟩) := by kernel_rfl
theorem run_block (w : World) : (fun os => segRun treeTable pw w 11 ann0 1 1 ⟨Ha w.params, gs, dr, 187, os⟩ (blockOf (behindTheImports pw) env0 cE p0 B0)) =
    fun os => some (.next, (tS false nmB 8 0 15 187 w os).abs, cE, p0) := by kernel_rfl
theorem run_A (w : World) : (fun os => segRunT treeTable pw w 11 ann0 1 756 (tS false nmB 8 0 15 187 w os) (piecesOf (cutS 0 33) env0 cE p0 B0)) =
    fun os => some (.next, tS false nm1 38 19 148 398 w os, cE, ⟨110, 0, 110, 8⟩) := by rw [segT, tabT]; kernel_rfl
theorem run_B (w : World) : (fun os => segRunT treeTable pw w 11 ann0 1 691 (tS false nm1 38 19 148 398 w os) (piecesOf (cutS 33 15) env0 cE ⟨110, 0, 110, 8⟩ B0)) =
    fun os => some (.next, tS true nm2 52 27 226 548 w os, cE, ⟨172, 0, 182, 34⟩) :=
  byRow2 "special-get-raises" (P := fun w => (fun os => segRunT treeTable pw w 11 ann0 1 691 (tS false nm1 38 19 148 398 w os) (piecesOf (cutS 33 15) env0 cE ⟨110, 0, 110, 8⟩ B0)) =
    fun os => some (.next, tS true nm2 52 27 226 548 w os, cE, ⟨172, 0, 182, 34⟩)) (fun w => by rw [segT, tabT]; kernel_rfl) (fun w => by rw [segT, tabT]; kernel_rfl) w
theorem run_C (w : World) : (fun os => segRunT treeTable pw w 11 ann0 1 422 (tS true nm2 52 27 226 548 w os) (piecesOf (cutS 48 1) env0 cE ⟨172, 0, 182, 34⟩ B0)) =
    fun os => some (.next, tS true nm2 53 28 289 632 w os, cE, ⟨183, 0, 246, 20⟩) := by rw [segT, tabT]; kernel_rfl
theorem run_C2 (w : World) : (fun os => segRunT treeTable pw w 11 ann0 1 395 (tS true nm2 53 28 289 632 w os) (piecesOf (cutS 49 14) env0 cE ⟨183, 0, 246, 20⟩ B0)) =
    fun os => some (.next, tS true nm3 66 39 366 755 w os, cE, ⟨319, 0, 326, 72⟩) := by rw [segT, tabT]; kernel_rfl
theorem run_D (w : World) : (fun os => segRunT treeTable pw w 11 ann0 1 597 (tS true nm3 66 39 366 755 w os) (piecesOf (cutS 63 19) env0 cE ⟨319, 0, 326, 72⟩ B0)) =
    fun os => some (.next, tS true nm4 83 55 464 915 w os, cE, ⟨442, 0, 458, 63⟩) :=
  byRow2 "special-get-raises" (P := fun w => (fun os => segRunT treeTable pw w 11 ann0 1 597 (tS true nm3 66 39 366 755 w os) (piecesOf (cutS 63 19) env0 cE ⟨319, 0, 326, 72⟩ B0)) =
    fun os => some (.next, tS true nm4 83 55 464 915 w os, cE, ⟨442, 0, 458, 63⟩)) (fun w => by rw [segT, tabT]; kernel_rfl) (fun w => by rw [segT, tabT]; kernel_rfl) w
theorem run_fin (w : World) : (fun os => topRun treeTable pw w 11 ann0 2 (tS true nm4 83 55 464 915 w os).abs ⟨doneF .next, cE, ⟨442, 0, 458, 63⟩, B0⟩) =
    fun os => some ⟨H1 w.params, gs, dr, 915, os⟩ := by kernel_rfl
end
end Mine
namespace Mine
noncomputable section
noncomputable def qv : Program := { pw with main := { pw.main with body := [st 81] } }
noncomputable def looseN : List Str := (pw.main.scope.names.map (·.1)).filter fun s => s != Str.ofString "law"
noncomputable abbrev hk : Hook := ⟨Heap, fun s => s.heap, fun w => H1 w.params, fun w h => ∀ b o, (H1 w.params).get? b = some o → h.get? b = some o, fun _ _ e b o x => by rw [show (_ : Heap) = _ from e]; exact x, fun _ _ _ s k b o x => k b o (s b o x)⟩
theorem run_all (w : World) (os : OsState) : topRun treeTable pw w 11 ann0 (12 + (1 + (756 + (691 + (422 + (395 + (597 + 2))))))) ⟨boot_heap w.params, gs, boot_drawn, boot_toks, os⟩ (topStub pw) = some ⟨H1 w.params, gs, dr, 915, os⟩ := by
  have e0 : behindTheImports pw = cutS 0 33 ++ (cutS 33 15 ++ (cutS 48 1 ++ (cutS 49 14 ++ (cutS 63 19 ++ [])))) := by kernel_rfl
  refine go_top (congrFun (run_pre w) os) ?_
  refine piece_block (congrFun (run_block w) os) ?_
  rw [e0]
  refine piece_app (segRun_of (congrFun (run_A w) os)) ?_
  refine piece_app (segRun_of (congrFun (run_B w) os)) ?_
  refine piece_app (segRun_of (congrFun (run_C w) os)) ?_
  refine piece_app (segRun_of (congrFun (run_C2 w) os)) ?_
  refine piece_app (segRun_of (congrFun (run_D w) os)) ?_
  exact piece_nil (congrFun (run_fin w) os)
theorem lk1 (w : World) : (staticsOk (importedModules pw.main.body) (boot_heap w.params) (H1 w.params) && namesBound pw (H1 w.params) && laidKept (boot_heap w.params) (H1 w.params)) = true := by kernel_rfl
theorem lk2 (w : World) : (fun os => openSeen qv looseN (importedModules pw.main.body) (fun s => recOk [] s) true ⟨H1 w.params, gs, dr, 915, os⟩) = fun _ => openGood qv looseN := by kernel_rfl
theorem op (w : World) : (fencedOpening treeTable pw w 6000).map (fun s => (s.heap, s.gens, s.drawn, s.toks)) = some (boot_heap w.params, gs, boot_drawn, boot_toks) :=
  boot_open (p := pw) (N := 6000) (by kernel_rfl) (by kernel_rfl) (fun s => by kernel_rfl) w
theorem sz (w : World) : ((boot_heap w.params).isNs mainGlobals && gs.size == 0, (boot_heap w.params).objs.size, (boot_heap w.params).nsMap mainGlobals "__annotations__") = (true, 11, ann0) := by kernel_rfl
theorem left : LeftO pw qv looseN (fun s => recOk [] s) (Hook.obs hk) (Hook.val hk) 6000 := by
  refine LeftO.of_pieces (H₀ := boot_heap) (H₁ := H1) (gs₀ := gs) (gs₁ := gs) (d₀ := boot_drawn) (d₁ := dr) (k₀ := boot_toks) (k₁ := 915) (m₀ := 11) (ann := ann0) (M := 12 + (1 + (756 + (691 + (422 + (395 + (597 + 2)))))))
    op sz run_all (by decide) (fun w => ?_)
  funext os
  have h1 := lk1 w
  have h2 := congrFun (lk2 w) os
  refine Prod.ext ?_ (Prod.ext h2 rfl)
  simp only [Bool.and_eq_true] at h1 ⊢
  exact ⟨⟨⟨h1.1.1, h1.1.2⟩, rfl⟩, h1.2⟩
set_option maxHeartbeats 8000000 in
theorem wellSaid : PySem.Challenge.rw_pc0078_01.wellSaid = true := by
  unfold OpenLaw.wellSaid OpenRow.wellSaid OpenRow.partSaid looksOpen
  repeat' (with_reducible refine look_both ?_ ?_)
  all_goals decide +kernel
end
end Mine
namespace Mine
noncomputable section
noncomputable def fPos : Stmt → Pos
  | .FunctionDef _ _ _ _ _ _ _ _ _ p => p
  | _ => default
noncomputable abbrev lawD : DefRec := { name := Str.ofString "law", params := fArgs (st 81), body := fBody (st 81), scope := fScope (st 81), pos := fPos (st 81) }
noncomputable abbrev rwL := PySem.Challenge.rw_pc0078_01
theorem bareL : rwL.row.toRowW.prog.bare := ⟨by kernel_rfl, by kernel_rfl, by kernel_rfl, by kernel_rfl, by kernel_rfl, by kernel_rfl⟩
theorem promisedL : rwL.row.toRowW.promised := ⟨[WData.list []], by kernel_rfl, by kernel_rfl⟩
theorem okL : (chainsOk qv && opensWell pw && (frees rwL.row.toRowW && rwL.row.within.isEmpty)) = true := by kernel_rfl
theorem hd (call : WalkO qv looseN (fun _ _ => True) (Hook.says hk) rwL.row.toRowW lawD [] fun f vs => PySem.call f vs) : rwL.Holds := by
  refine holds_law wellSaid fun said => ?_
  refine holds_open (r := rwL.row) (q := qv) (loose := looseN) (Xt := fun s => recOk [] s) (XP := fun _ _ => True) (Yf := Hook.obs hk) (Ya := Hook.val hk) (YP := Hook.says hk) (d := lawD) (kwd := []) (N := 6000)
    left (Hook.of hk) (Hook.keeps hk) (fun _ _ => trivial) (fun _ _ _ _ _ => trivial) (by kernel_rfl) (by kernel_rfl) (by kernel_rfl) (fun s e => recFacts_of e) (by kernel_rfl) said okL bareL promisedL call
end
end Mine
namespace Mine
theorem no_some {α : Type} {z : α} {p : Prop} (h : none = some z) : p := by cases h

/-! ## the abstract values and what they stand for -/
inductive V where
  | none
  | bool (b : Bool)
  | int (i : Int)
  | str (l : List Nat)
  | tup (l : List V)
  | ref (i : Nat)
  | obj (i : Nat)
  | lst (l : List V)
  | g (v : Value)
  deriving Inhabited
inductive Cell where
  | list (l : List V)
  | arr (l : List V)
  | flds (l : List (Str × V))
  | tab
  deriving Inhabited

noncomputable def Inv (w : World) (h : Heap) : Prop := ∀ b o, (H1 w.params).get? b = some o → h.get? b = some o

noncomputable abbrev jsC : Addr := 284
inductive Rep (h : Heap) (ρ : List Addr) : Value → V → Prop
  | none : Rep h ρ .none .none
  | bool (b : Bool) : Rep h ρ (.bool b) (.bool b)
  | int (i : Int) (t : Tok) : Rep h ρ (.int i t) (.int i)
  | str (l : List Nat) (t : Tok) : Rep h ρ (.str ⟨l.toArray⟩ t) (.str l)
  | tup {a : Addr} {vs : List Value} {Vs : List V} : IsTup h a vs.toArray → a ∉ ρ → vs.length = Vs.length →
      (∀ (i : Nat) (v : Value) (x : V), vs[i]? = some v → Vs[i]? = some x → Rep h ρ v x) → Rep h ρ (.ref a) (.tup Vs)
  | ref {i : Nat} {a : Addr} : ρ[i]? = some a → Rep h ρ (.ref a) (.ref i)
  | obj {x d : Addr} {i : Nat} : h.get? x = some (instObj jsC d) → x ∉ ρ → ρ[i]? = some d → Rep h ρ (.ref x) (.obj i)
  | lst {a : Addr} {vs : List Value} {Vs : List V} : h.IsList a vs.toArray → a ∉ ρ → vs.length = Vs.length →
      (∀ (i : Nat) (v : Value) (x : V), vs[i]? = some v → Vs[i]? = some x → Rep h ρ v x) → Rep h ρ (.ref a) (.lst Vs)
  | g (v : Value) : Rep h ρ v (.g v)
noncomputable def RepL (h : Heap) (ρ : List Addr) (vs : List Value) (Vs : List V) : Prop :=
  vs.length = Vs.length ∧ ∀ (i : Nat) (v : Value) (x : V), vs[i]? = some v → Vs[i]? = some x → Rep h ρ v x

noncomputable def FldsAre (h : Heap) (ρ : List Addr) : List DictEntry → List (Str × V) → Prop
  | [], [] => True
  | e :: es, f :: fs => (∃ t, e.key = .str f.1 t) ∧ Rep h ρ e.val f.2 ∧ FldsAre h ρ es fs
  | _, _ => False
noncomputable def shortTab : List (Int × List Nat) := [(34, [92, 34]), (92, [92, 92]), (8, [92, 98]), (12, [92, 102]), (10, [92, 110]), (13, [92, 114]), (9, [92, 116])]
noncomputable def CellAt (w : World) (h : Heap) (ρ : List Addr) (a : Addr) : Cell → Prop
  | .list Vs => ∃ vs, PlainL h a vs.toArray ∧ RepL h ρ vs Vs
  | .arr Vs => ∃ vs, h.IsList a vs.toArray ∧ RepL h ρ vs Vs
  | .flds fs => ∃ es n, h.get? a = some (dictOf es n) ∧ FldsAre h ρ es fs ∧ (fs.map (·.1)).Nodup ∧ ∀ e ∈ es, ∃ x t, e.key = .str x t ∧ e.hash = PyData.keyHash w.params x
  | .tab => ∃ f, h.MapOf (intKind pw w) a f ∧ ∀ k, match shortTab.lookup k with | some x => ∃ t, f k = some (.str ⟨x.toArray⟩ t) | none => f k = none

structure Sto (w : World) (h : Heap) (ρ : List Addr) (σ : List Cell) : Prop where
  len : ρ.length = σ.length
  nodup : ρ.Nodup
  cell : ∀ (i : Nat) (a : Addr) (c : Cell), ρ[i]? = some a → σ[i]? = some c → CellAt w h ρ a c
  new : ∀ a ∈ ρ, (H1 w.params).get? a = none

structure Grow (h : Heap) (ρ : List Addr) (h' : Heap) (ρ' : List Addr) : Prop where
  keep : ∀ b o, b ∉ ρ → h.get? b = some o → h'.get? b = some o
  pre : ∃ t, ρ' = ρ ++ t ∧ ∀ a ∈ t, h.get? a = none

theorem isList_at {h h' : Heap} {a : Addr} {its : Array Value} (x : h.IsList a its) (k : ∀ o, h.get? a = some o → h'.get? a = some o) : h'.IsList a its := let ⟨o, e, r⟩ := x; ⟨o, k o e, r⟩
theorem Grow.refl {h : Heap} {ρ : List Addr} : Grow h ρ h ρ := ⟨fun _ _ _ e => e, [], by simp, by simp⟩
theorem Grow.at {h h' : Heap} {ρ : List Addr} (k : ∀ b o, b ∉ ρ → h.get? b = some o → h'.get? b = some o) : Grow h ρ h' ρ := ⟨k, [], by simp, by simp⟩
theorem Grow.keepAll {h h' : Heap} {ρ : List Addr} (k : ∀ b o, h.get? b = some o → h'.get? b = some o) : Grow h ρ h' ρ := .at fun b o _ e => k b o e
theorem Grow.trans {h₁ h₂ h₃ : Heap} {ρ₁ ρ₂ ρ₃ : List Addr} (x : Grow h₁ ρ₁ h₂ ρ₂) (y : Grow h₂ ρ₂ h₃ ρ₃) (hn : ρ₃.Nodup) : Grow h₁ ρ₁ h₃ ρ₃ := by
  obtain ⟨t, rfl, ft⟩ := x.pre
  obtain ⟨u, rfl, fu⟩ := y.pre
  refine ⟨fun b o hb e => y.keep b o ?_ (x.keep b o hb e), t ++ u, by simp, fun a ha => ?_⟩
  · intro hm
    rcases List.mem_append.mp hm with hm | hm
    · exact hb hm
    · rw [ft b hm] at e; cases e
  · rcases List.mem_append.mp ha with ha | ha
    · exact ft a ha
    · cases q : h₁.get? a with
      | none => rfl
      | some o =>
        exfalso
        have hna : a ∉ ρ₁ := fun hm => by
          rw [List.append_assoc, List.nodup_append] at hn
          exact hn.2.2 a hm a (List.mem_append.mpr (.inr ha)) rfl
        have := x.keep a o hna q
        rw [fu a ha] at this; cases this
theorem Grow.sub {h h' : Heap} {ρ ρ' : List Addr} (x : Grow h ρ h' ρ') {i : Nat} {a : Addr} (e : ρ[i]? = some a) : ρ'[i]? = some a := by
  obtain ⟨t, rfl, _⟩ := x.pre
  rw [List.getElem?_append_left (List.getElem?_eq_some_iff.mp e).1]; exact e
theorem Grow.off {h h' : Heap} {ρ ρ' : List Addr} (x : Grow h ρ h' ρ') {a : Addr} {o : Obj} (e : h.get? a = some o) (ha : a ∉ ρ) : a ∉ ρ' := by
  obtain ⟨t, rfl, ft⟩ := x.pre
  intro hm
  rcases List.mem_append.mp hm with hm | hm
  · exact ha hm
  · rw [ft a hm] at e; cases e
theorem Rep.grow {h h' : Heap} {ρ ρ' : List Addr} {v : Value} {x : V} (r : Rep h ρ v x) (g : Grow h ρ h' ρ') : Rep h' ρ' v x := by
  induction r with
  | none => exact .none
  | bool b => exact .bool b
  | int i t => exact .int i t
  | str l t => exact .str l t
  | tup ht ha hl _ ih =>
    obtain ⟨o, ho, hc⟩ := ht
    exact .tup ⟨o, g.keep _ _ ha ho, hc⟩ (g.off ho ha) hl ih
  | ref e => exact .ref (g.sub e)
  | obj e ha hi => exact .obj (g.keep _ _ ha e) (g.off e ha) (g.sub hi)
  | lst hl ha hn _ ih =>
    obtain ⟨o, ho, hc⟩ := hl
    exact .lst ⟨o, g.keep _ _ ha ho, hc⟩ (g.off ho ha) hn ih
  | g v => exact .g v
theorem RepL.grow {h h' : Heap} {ρ ρ' : List Addr} {v : List Value} {x : List V} (r : RepL h ρ v x) (g : Grow h ρ h' ρ') : RepL h' ρ' v x :=
  ⟨r.1, fun i v x e1 e2 => (r.2 i v x e1 e2).grow g⟩
theorem Inv.grow {w : World} {h h' : Heap} {ρ ρ' : List Addr} {σ : List Cell} (i : Inv w h) (s : Sto w h ρ σ) (g : Grow h ρ h' ρ') : Inv w h' := fun b o e =>
  g.keep b o (fun hm => by rw [s.new b hm] at e; cases e) (i b o e)
theorem FldsAre.grow {h h' : Heap} {ρ ρ' : List Addr} (g : Grow h ρ h' ρ') : ∀ {es : List DictEntry} {fs : List (Str × V)}, FldsAre h ρ es fs → FldsAre h' ρ' es fs
  | [], [], _ => trivial
  | _ :: _, _ :: _, ⟨a, b, c⟩ => ⟨a, b.grow g, c.grow g⟩
  | [], _ :: _, x => x
  | _ :: _, [], x => x

/-! ## frames -/
structure EnvOk (env : Env) : Prop where
  g : env.globals = mainGlobals
  b : env.builtins = builtinsNs
  k : env.scope.kind = .function
  c : ∀ x, env.kindOf x = some .cell → ∃ c, env.cells.lookup x = some c
  inj : ∀ x y c, env.cells.lookup x = some c → env.cells.lookup y = some c → x = y

noncomputable def VarIs (h : Heap) (env : Env) (x : Str) (v : Value) : Prop :=
  (env.kindOf x = some .local ∧ ∃ m, h.Ns env.locals m ∧ m x = some v) ∨
  ((env.kindOf x = some .cell ∨ env.kindOf x = some .free) ∧ ∃ c, env.cells.lookup x = some c ∧ h.IsCell c (some v))
noncomputable def InX (env : Env) (b : Addr) : Prop := b = env.locals ∨ ∃ x, env.cells.lookup x = some b
structure Loc (h : Heap) (ρ : List Addr) (env : Env) (ns : List Str) (Λ : List (Option V)) : Prop where
  has : ∃ m, h.Ns env.locals m
  off : env.locals ∉ ρ
  new : 464 ≤ env.locals
  offc : ∀ x c, env.cells.lookup x = some c → c ∉ ρ ∧ c ≠ env.locals ∧ 464 ≤ c ∧ ∃ u, h.IsCell c u
  var : ∀ (i : Nat) (x : Str) (v : V), ns[i]? = some x → Λ[i]? = some (some v) → ∃ u, VarIs h env x u ∧ Rep h ρ u v
theorem Loc.grow {h h' : Heap} {ρ ρ' : List Addr} {env : Env} {ns : List Str} {Λ : List (Option V)} (l : Loc h ρ env ns Λ) (g : Grow h ρ h' ρ') : Loc h' ρ' env ns Λ := by
  have kn : ∀ m, h.Ns env.locals m → h'.Ns env.locals m := fun m ⟨o, es, ep, e, r⟩ => ⟨o, es, ep, g.keep _ _ l.off e, r⟩
  obtain ⟨m0, hm0⟩ := l.has
  refine ⟨⟨m0, kn _ hm0⟩, ?_, l.new, fun x c e => ?_, fun i x v e1 e2 => ?_⟩
  · obtain ⟨o, _, _, e, _⟩ := hm0
    exact g.off e l.off
  · obtain ⟨a, b, c', u, o, ho, hd⟩ := l.offc x c e
    exact ⟨g.off ho a, b, c', u, o, g.keep _ _ a ho, hd⟩
  · obtain ⟨u, hu, r⟩ := l.var i x v e1 e2
    refine ⟨u, ?_, r.grow g⟩
    rcases hu with ⟨hk, m, hm, hv⟩ | ⟨hk, c, hc, o, ho, hd⟩
    · exact .inl ⟨hk, m, kn _ hm, hv⟩
    · exact .inr ⟨hk, c, hc, o, g.keep _ _ (l.offc x c hc).1 ho, hd⟩

structure Room (A : Around) (k : Nat) : Prop where
  hh : A.handled = none
  hd : A.depth + k < 900
  hu : A.units + 8 * k < 9900
theorem Room.le {A : Around} {k j : Nat} (r : Room A k) (h : j ≤ k) : Room A j := ⟨r.hh, by have := r.hd; lia, by have := r.hu; lia⟩

noncomputable def EV (w : World) (k : Nat) (env : Env) (ns : List Str) (e : PySem.Expr) (Λ : List (Option V)) (σ : List Cell) (v : V) (σ' : List Cell) : Prop :=
  ∀ (A : Around) (s : Shared) (ρ : List Addr) (Q : Value → Shared → Prop) (E : Value → Shared → Prop), Room A k → Inv w s.heap → Sto w s.heap ρ σ → Loc s.heap ρ env ns Λ →
    (∀ x h' tk ρ', Grow s.heap ρ h' ρ' → Sto w h' ρ' σ' → Rep h' ρ' x v → Q x { s with heap := h', toks := tk }) →
    wpAny (model pw w) A (eval e env) Q E s

section
variable {w : World} {k : Nat} {env : Env} {ns : List Str} {Λ : List (Option V)} {σ σ' σ'' : List Cell}

theorem EV.c_int {i : Int} {kk : Nat} {pos : Pos} : EV w k env ns (.Constant (.int i) kk pos) Λ σ (.int i) σ := fun _ s ρ _ _ _ _ hs _ q =>
  wpAny_Constant_int (q _ s.heap _ ρ .refl hs (.int _ _))
theorem EV.c_none {kk : Nat} {pos : Pos} : EV w k env ns (.Constant .none kk pos) Λ σ .none σ := fun _ s ρ _ _ _ _ hs _ q =>
  wpAny_Constant_none (q _ s.heap s.toks ρ .refl hs .none)
theorem EV.c_bool {b : Bool} {kk : Nat} {pos : Pos} : EV w k env ns (.Constant (.bool b) kk pos) Λ σ (.bool b) σ := fun _ s ρ _ _ _ _ hs _ q =>
  wpAny_Constant_bool (q _ s.heap s.toks ρ .refl hs (.bool b))
theorem EV.c_str {x : Str} {kk : Nat} {pos : Pos} : EV w k env ns (.Constant (.str x) kk pos) Λ σ (.str x.cps.toList) σ := fun _ s ρ _ _ _ _ hs _ q =>
  wpAny_Constant_str (q _ s.heap _ ρ .refl hs (.str x.cps.toList _))
theorem EV.loc {i : Nat} {x : Str} {pos : Pos} {v : V} (ok : EnvOk env) (e1 : ns[i]? = some x) (e2 : Λ[i]? = some (some v)) (hd : (x == ("__debug__" : Str)) = false) (hn : (x == ("__classdict__" : Str)) = false) :
    EV w k env ns (.Name x pos) Λ σ v σ := fun _ s ρ _ _ _ _ hs hl q => by
  obtain ⟨u, hu, r⟩ := hl.var i x v e1 e2
  refine wpAny_Name ?_ hd
  have q' := q u s.heap s.toks ρ .refl hs r
  rcases hu with ⟨hk, m, hm, hv⟩ | ⟨hk, c, hc, hcell⟩
  · exact wpAny_loadName_local ok.k hk hm hv q'
  · rcases hk with hk | hk
    · exact wpAny_loadName_cell ok.k hk hc hcell q'
    · exact wpAny_loadName_free ok.k hk hc hcell q' hn
end

theorem H1_ns (w : World) : (H1 w.params).isNs mainGlobals = true := by kernel_rfl
theorem H1_nb (w : World) : (H1 w.params).isNs builtinsNs = true := by kernel_rfl
theorem H1_nc (w : World) : (H1 w.params).isNs cStatics = true := by kernel_rfl
theorem H1_lim (w : World) : (H1 w.params).nsMap cStatics "sys.recursionlimit" = none := by kernel_rfl
theorem Inv.noLimit {w : World} {h : Heap} (i : Inv w h) : h.NoLimit := ⟨_, (Heap.Ns.of_isNs (H1_nc w)).keeps i, H1_lim w⟩
theorem Inv.gl {w : World} {h : Heap} (i : Inv w h) : h.Ns mainGlobals ((H1 w.params).nsMap mainGlobals) := (Heap.Ns.of_isNs (H1_ns w)).keeps i
theorem Inv.bl {w : World} {h : Heap} (i : Inv w h) : h.Ns builtinsNs ((H1 w.params).nsMap builtinsNs) := (Heap.Ns.of_isNs (H1_nb w)).keeps i

section
variable {w : World} {k : Nat} {env : Env} {ns : List Str} {Λ : List (Option V)} {σ σ' σ'' : List Cell}
noncomputable def GlobIs (w : World) (x : Str) (v : V) : Prop :=
  ∃ u, (∀ h ρ, Rep h ρ u v) ∧ ((H1 w.params).nsMap mainGlobals x = some u ∨ ((H1 w.params).nsMap mainGlobals x = none ∧ (H1 w.params).nsMap builtinsNs x = some u))
theorem EV.glob {x : Str} {pos : Pos} {v : V} (ok : EnvOk env) (hx : env.kindOf x = some .globalImplicit) (hg : GlobIs w x v) (hd : (x == ("__debug__" : Str)) = false) :
    EV w k env ns (.Name x pos) Λ σ v σ := fun _ s ρ _ _ _ hi hs hl q => by
  obtain ⟨u, hr, hv⟩ := hg
  have q' := q u s.heap s.toks ρ .refl hs (hr _ _)
  refine Name_function_global ok.k hx ?_ hd
  rcases hv with hv | ⟨hv, hb⟩
  · exact loadGlobal_global (by rw [ok.g]; exact hi.gl) hv q'
  · exact loadGlobal_builtin (by rw [ok.g]; exact hi.gl) hv (by rw [ok.b]; exact hi.bl) hb q'
end
end Mine
namespace Mine

/-! ## operations on plain values -/
noncomputable def sm (a : Int) : Bool := decide (a.natAbs.log2 < 9000)
noncomputable def asInt : V → Option Int
  | .int i => some i
  | _ => none
noncomputable def asStr : V → Option (List Nat)
  | .str l => some l
  | _ => none
noncomputable def asBool : V → Option Bool
  | .bool b => some b
  | _ => none
noncomputable def asTup : V → Option (List V)
  | .tup l => some l
  | _ => none
noncomputable def asRef : V → Option Nat
  | .ref i => some i
  | _ => none
noncomputable def asObj : V → Option Nat
  | .obj i => some i
  | _ => none
theorem asInt_is {v : V} {i : Int} (h : asInt v = some i) : v = .int i := by cases v <;> cases h; rfl
theorem asStr_is {v : V} {i : List Nat} (h : asStr v = some i) : v = .str i := by cases v <;> cases h; rfl
theorem asBool_is {v : V} {i : Bool} (h : asBool v = some i) : v = .bool i := by cases v <;> cases h; rfl
theorem asTup_is {v : V} {i : List V} (h : asTup v = some i) : v = .tup i := by cases v <;> cases h; rfl
theorem asRef_is {v : V} {i : Nat} (h : asRef v = some i) : v = .ref i := by cases v <;> cases h; rfl
theorem asObj_is {v : V} {i : Nat} (h : asObj v = some i) : v = .obj i := by cases v <;> cases h; rfl
noncomputable def guardO {α : Type} (b : Bool) (a : Option α) : Option α := if b = true then a else none
theorem guardO_is {α : Type} {b : Bool} {a : Option α} {r : α} (h : guardO b a = some r) : b = true ∧ a = some r := by
  unfold guardO at h; split at h
  · exact ⟨by assumption, h⟩
  · cases h
noncomputable def intB (g : Int → Int → Bool) (f : Int → Int → Int) (a b : V) : Option V := (asInt a).bind fun x => (asInt b).bind fun y => guardO (g x y) (some (.int (f x y)))
theorem intB_is {g : Int → Int → Bool} {f : Int → Int → Int} {a b c : V} (h : intB g f a b = some c) : ∃ x y, a = .int x ∧ b = .int y ∧ g x y = true ∧ c = .int (f x y) := by
  obtain ⟨x, hx, h⟩ := Option.bind_eq_some_iff.mp h
  obtain ⟨y, hy, h⟩ := Option.bind_eq_some_iff.mp h
  obtain ⟨hg, h⟩ := guardO_is h
  cases h
  exact ⟨x, y, asInt_is hx, asInt_is hy, hg, rfl⟩
noncomputable def yes2 (_ _ : Int) : Bool := true
noncomputable def mulG (a b : Int) : Bool := sm a && sm b
noncomputable def divG (_ b : Int) : Bool := b != 0 && sm b
noncomputable def powG (a n : Int) : Bool := decide (0 ≤ n) && decide (n.natAbs ≤ 100000) && decide (a.natAbs < 18446744073709551616)
noncomputable def shlG (a n : Int) : Bool := decide (0 ≤ n) && decide (n.natAbs ≤ 100000) && sm a
noncomputable def shrG (_ n : Int) : Bool := decide (0 ≤ n)
noncomputable def isStr : V → Bool
  | .str _ => true
  | _ => false
noncomputable def addS (a b : V) : Option V := (asStr a).bind fun x => (asStr b).bind fun y => guardO (decide (x.length + y.length ≤ 1000000)) (some (.str (x ++ y)))
noncomputable def mulS (a b : V) : Option V := (asStr a).bind fun x => (asInt b).bind fun n => guardO (decide (x.length ≤ 16) && decide (n.natAbs ≤ 1000)) (some (.str (List.replicate n.toNat x).flatten))
theorem addS_is {a b c : V} (h : addS a b = some c) : ∃ l m, a = .str l ∧ b = .str m ∧ decide (l.length + m.length ≤ 1000000) = true ∧ c = .str (l ++ m) := by
  obtain ⟨x, hx, h⟩ := Option.bind_eq_some_iff.mp h
  obtain ⟨y, hy, h⟩ := Option.bind_eq_some_iff.mp h
  obtain ⟨hg, h⟩ := guardO_is h
  cases h
  exact ⟨x, y, asStr_is hx, asStr_is hy, hg, rfl⟩
theorem mulS_is {a b c : V} (h : mulS a b = some c) : ∃ l n, a = .str l ∧ b = .int n ∧ (decide (l.length ≤ 16) && decide (n.natAbs ≤ 1000)) = true ∧ c = .str (List.replicate n.toNat l).flatten := by
  obtain ⟨x, hx, h⟩ := Option.bind_eq_some_iff.mp h
  obtain ⟨y, hy, h⟩ := Option.bind_eq_some_iff.mp h
  obtain ⟨hg, h⟩ := guardO_is h
  cases h
  exact ⟨x, y, asStr_is hx, asInt_is hy, hg, rfl⟩
noncomputable def addV (a b : V) : Option V := if isStr a = true then addS a b else intB yes2 (· + ·) a b
noncomputable def mulV (a b : V) : Option V := if isStr a = true then mulS a b else intB mulG (· * ·) a b
noncomputable def binV (o : Operator) (a b : V) : Option V := match o with
  | .Add => addV a b
  | .Sub => intB yes2 (· - ·) a b
  | .Mult => mulV a b
  | .FloorDiv => intB divG Int.fdiv a b
  | .Mod => intB divG Int.fmod a b
  | .Pow => intB powG (fun a n => a ^ n.toNat) a b
  | .LShift => intB shlG (fun a n => a * 2 ^ n.toNat) a b
  | .RShift => intB shrG (fun a n => a.fdiv (2 ^ n.toNat)) a b
  | .BitAnd => intB yes2 Builtin.bitAnd a b
  | .BitOr => intB yes2 Builtin.bitOr a b
  | .BitXor => intB yes2 Builtin.bitXor a b
  | .MatMult => none
  | .Div => none

theorem sm_bits {a : Int} (h : sm a = true) : Builtin.Int.intBits a ≤ 9000 := by
  unfold Builtin.Int.intBits
  have := of_decide_eq_true h
  split <;> lia

noncomputable def PR (w : World) (m : Sem Value) (v : V) : Prop :=
  ∀ (A : Around) (s : Shared) (ρ : List Addr) (Q : Value → Shared → Prop) (E : Value → Shared → Prop), A.handled = none → (∀ x tk, Rep s.heap ρ x v → Q x { s with toks := tk }) → wpAny (model pw w) A m Q E s

theorem mulText (a : List Nat) (n : Int) : (Txt.mul ⟨a.toArray⟩ n) = ⟨((List.replicate n.toNat a).flatten).toArray⟩ := by
  unfold Txt.mul
  by_cases h : n < 1
  · rw [if_pos h, show n.toNat = 0 by lia]; rfl
  · rw [if_neg h]
    by_cases h2 : (n == 1 || (⟨a.toArray⟩ : Str).length == 0) = true
    · rw [if_pos h2]
      rcases Bool.or_eq_true_iff.mp h2 with e | e
      · have : n = 1 := by simpa using e
        subst this; simp
      · have : a = [] := by
          have e' : (⟨a.toArray⟩ : Str).cps.size = 0 := by simpa [PySem.Str.length] using e
          simpa using e'
        subst this; simp
    · rw [if_neg h2]
      congr 1
      have key : ∀ (k : Nat) (x : Array Nat), (List.replicate k a.toArray).foldl (· ++ ·) x = x ++ ((List.replicate k a).flatten).toArray := by
        intro k
        induction k with
        | zero => intro x; simp
        | succ k ih => intro x; rw [List.replicate_succ, List.foldl_cons, ih, List.replicate_succ]; simp
      rw [key]; simp

theorem strAppend (a b : List Nat) : ((⟨a.toArray⟩ : Str) ++ (⟨b.toArray⟩ : Str)) = ⟨(a ++ b).toArray⟩ := by
  show (⟨_⟩ : Str) = _
  simp

theorem int_rep {h : Heap} {ρ : List Addr} {u : Value} {i : Int} (r : Rep h ρ u (.int i)) : ∃ t, u = .int i t := by cases r; exact ⟨_, rfl⟩
theorem str_rep {h : Heap} {ρ : List Addr} {u : Value} {l : List Nat} (r : Rep h ρ u (.str l)) : ∃ t, u = .str ⟨l.toArray⟩ t := by cases r; exact ⟨_, rfl⟩
theorem bin_sound {w : World} {o : Operator} {a b c : V} {h : Heap} {ρ : List Addr} {x y : Value} (e : binV o a b = some c) (ha : Rep h ρ x a) (hb : Rep h ρ y b) : PR w (binaryOp o x y) c := by
  intro A s ρ' Q E hh q
  have two : ∀ {g : Int → Int → Bool} {f : Int → Int → Int}, intB g f a b = some c → ∃ i j t u, x = .int i t ∧ y = .int j u ∧ g i j = true ∧ c = .int (f i j) := fun h => by
    obtain ⟨i, j, rfl, rfl, hg, rfl⟩ := intB_is h
    obtain ⟨t, rfl⟩ := int_rep ha
    obtain ⟨u, rfl⟩ := int_rep hb
    exact ⟨i, j, t, u, rfl, rfl, hg, rfl⟩
  unfold binV at e
  cases o
  · have e : addV a b = some c := e
    unfold addV at e
    by_cases hs : isStr a = true
    · rw [if_pos hs] at e
      obtain ⟨l, m, rfl, rfl, hc, rfl⟩ := addS_is e
      obtain ⟨t, rfl⟩ := str_rep ha
      obtain ⟨u, rfl⟩ := str_rep hb
      have hc := of_decide_eq_true hc
      refine SB.add (fun t' k => ?_) (by rw [sizeLine_eq]; simp only [PySem.Str.length, List.size_toArray]; lia)
      rw [strAppend]; exact q _ _ (.str _ _)
    · rw [if_neg hs] at e
      obtain ⟨i, j, t, u, rfl, rfl, hg, rfl⟩ := two e
      exact add_int (q _ _ (.int _ _))
  · obtain ⟨i, j, t, u, rfl, rfl, hg, rfl⟩ := two e
    exact sub_int (q _ _ (.int _ _))
  · have e : mulV a b = some c := e
    unfold mulV at e
    by_cases hs : isStr a = true
    · rw [if_pos hs] at e
      obtain ⟨l, n, rfl, rfl, hc, rfl⟩ := mulS_is e
      obtain ⟨t, rfl⟩ := str_rep ha
      obtain ⟨u, rfl⟩ := int_rep hb
      simp only [Bool.and_eq_true, decide_eq_true_eq] at hc
      refine SB.mul (mulOk_of 16 1048576 (by simpa [PySem.Str.length] using hc.1) (by omega) (by omega) (by decide) (by decide)) fun t' k => ?_
      rw [mulText]; exact q _ _ (.str _ _)
    · rw [if_neg hs] at e
      obtain ⟨i, j, t, u, rfl, rfl, hg, rfl⟩ := two e
      obtain ⟨h1, h2⟩ := Bool.and_eq_true_iff.mp hg
      exact mul_int (q _ _ (.int _ _)) (IntMulOk.of_bits (Nat.le_trans (sm_bits h1) (by decide)) (Nat.le_trans (sm_bits h2) (by decide)))
  · cases e
  · cases e
  · obtain ⟨i, j, t, u, rfl, rfl, hg, rfl⟩ := two e
    obtain ⟨h1, h2⟩ := Bool.and_eq_true_iff.mp hg
    exact mod_int' (by simpa using h1) (q _ _ (.int _ _))
  · obtain ⟨i, j, t, u, rfl, rfl, hg, rfl⟩ := two e
    simp only [powG, Bool.and_eq_true, decide_eq_true_eq] at hg
    exact pow_int_small hg.1.1 (by lia) hg.2 (q _ _ (.int _ _))
  · obtain ⟨i, j, t, u, rfl, rfl, hg, rfl⟩ := two e
    simp only [shlG, Bool.and_eq_true, decide_eq_true_eq] at hg
    exact lshift_int hg.1.1 (by have := sm_bits hg.2; lia) (q _ _ (.int _ _))
  · obtain ⟨i, j, t, u, rfl, rfl, hg, rfl⟩ := two e
    exact rshift_int (of_decide_eq_true hg) (q _ _ (.int _ _))
  · obtain ⟨i, j, t, u, rfl, rfl, hg, rfl⟩ := two e
    exact or_int (q _ _ (.int _ _))
  · obtain ⟨i, j, t, u, rfl, rfl, hg, rfl⟩ := two e
    exact xor_int (q _ _ (.int _ _))
  · obtain ⟨i, j, t, u, rfl, rfl, hg, rfl⟩ := two e
    exact and_int (q _ _ (.int _ _))
  · obtain ⟨i, j, t, u, rfl, rfl, hg, rfl⟩ := two e
    obtain ⟨h1, h2⟩ := Bool.and_eq_true_iff.mp hg
    exact floordiv_int (by simpa using h1) (q _ _ (.int _ _)) (Or.inl (PyProof.noPylong_of_log2 (of_decide_eq_true h2)))
end Mine
namespace Mine

/-! ## comparisons -/
noncomputable def vpy : Nat → V → Option PyData
  | _, .none => some .none
  | _, .bool b => some (.bool b)
  | _, .int i => some (.int i)
  | _, .str l => some (.str ⟨l.toArray⟩)
  | n + 1, .tup l => (l.mapM (vpy n)).map .tuple
  | _, _ => none

theorem rep_reads {h : Heap} {ρ : List Addr} : ∀ (n : Nat) {x : Value} {v : V} {d : PyData}, Rep h ρ x v → vpy n v = some d → ∃ as, Reads h x d as := by
  intro n
  induction n with
  | zero =>
    intro x v d r e
    cases r <;> first | (exact no_some e) | (obtain rfl := Option.some.inj e)
    · exact ⟨_, .none⟩
    · exact ⟨_, .bool _⟩
    · exact ⟨_, .int _ _⟩
    · exact ⟨_, .str _ _⟩
  | succ n ih =>
    intro x v d r e
    cases r with
    | none => obtain rfl := Option.some.inj e; exact ⟨_, .none⟩
    | bool b => obtain rfl := Option.some.inj e; exact ⟨_, .bool _⟩
    | int i t => obtain rfl := Option.some.inj e; exact ⟨_, .int _ _⟩
    | str l t => obtain rfl := Option.some.inj e; exact ⟨_, .str _ _⟩
    | tup ht ha hl hr =>
      rename_i a vs Vs
      change (Vs.mapM (vpy n)).map PyData.tuple = some d at e
      obtain ⟨ds, hds, rfl⟩ := Option.map_eq_some_iff.mp e
      obtain ⟨o, ho, hc, k, hd⟩ := ht
      have key : ∀ (vs : List Value) (Vs : List V) (ds : List PyData), vs.length = Vs.length → (∀ (i : Nat) (v : Value) (x : V), vs[i]? = some v → Vs[i]? = some x → Rep h ρ v x) → Vs.mapM (vpy n) = some ds → ∃ as, ReadsAll h vs ds as := by
        intro vs
        induction vs with
        | nil =>
          intro Vs ds hl _ hm
          cases Vs with
          | nil => simp at hm; subst hm; exact ⟨_, .nil⟩
          | cons _ _ => simp at hl
        | cons v vs ihv =>
          intro Vs ds hl hr hm
          cases Vs with
          | nil => simp at hl
          | cons X Xs =>
            rw [List.mapM_cons] at hm
            cases q1 : vpy n X with
            | none => rw [q1] at hm; simp at hm
            | some d1 =>
              rw [q1] at hm
              cases q2 : Xs.mapM (vpy n) with
              | none => rw [q2] at hm; simp at hm
              | some ds2 =>
                rw [q2] at hm
                simp at hm
                subst hm
                obtain ⟨as, ra⟩ := ih (hr 0 v X rfl rfl) q1
                obtain ⟨bs, rb⟩ := ihv Xs ds2 (by simpa using hl) (fun i v x e1 e2 => hr (i + 1) v x e1 e2) q2
                exact ⟨_, .cons ra rb⟩
      obtain ⟨as, ra⟩ := key vs Vs ds hl hr hds
      exact ⟨as, .tuple ho hc hd ra⟩
    | ref e' => exact no_some e
    | obj _ _ _ => exact no_some e
    | lst _ _ _ _ => exact no_some e
    | g v => exact no_some e

noncomputable def eqD (a b : V) : Option Bool := match vpy 6 a, vpy 6 b with
  | some x, some y => if (SeqAt.shaped x && SeqAt.shaped y) = true then some (PyData.eqv x y) else none
  | _, _ => none

noncomputable def isNoneV : V → Option Bool
  | .none => some true
  | .bool _ => some false
  | .int _ => some false
  | .str _ => some false
  | .tup _ => some false
  | .ref _ => some false
  | .obj _ => some false
  | _ => none

noncomputable def cmpI (f : Int → Int → Bool) (a b : V) : Option Bool := (asInt a).bind fun x => (asInt b).bind fun y => some (f x y)
theorem cmpI_is {f : Int → Int → Bool} {a b : V} {c : Bool} (h : cmpI f a b = some c) : ∃ x y, a = .int x ∧ b = .int y ∧ c = f x y := by
  obtain ⟨x, hx, h⟩ := Option.bind_eq_some_iff.mp h
  obtain ⟨y, hy, h⟩ := Option.bind_eq_some_iff.mp h
  cases h
  exact ⟨x, y, asInt_is hx, asInt_is hy, rfl⟩
noncomputable def ltI (a b : Int) : Bool := decide (a < b)
noncomputable def leI (a b : Int) : Bool := decide (a ≤ b)
noncomputable def gtI (a b : Int) : Bool := decide (b < a)
noncomputable def geI (a b : Int) : Bool := decide (b ≤ a)
noncomputable def eqV : V → V → Option Bool
  | .int a, .int b => some (a == b)
  | .str a, .str b => some (a == b)
  | .tup a, .tup b => eqD (.tup a) (.tup b)
  | _, _ => none
noncomputable def leS (a b : V) : Option Bool := (asStr a).bind fun x => (asStr b).bind fun y => some (!decide (y < x))
theorem leS_is {a b : V} {c : Bool} (h : leS a b = some c) : ∃ x y, a = .str x ∧ b = .str y ∧ c = !decide (y < x) := by
  obtain ⟨x, hx, h⟩ := Option.bind_eq_some_iff.mp h
  obtain ⟨y, hy, h⟩ := Option.bind_eq_some_iff.mp h
  cases h
  exact ⟨x, y, asStr_is hx, asStr_is hy, rfl⟩
noncomputable def leV (a b : V) : Option Bool := if isStr a = true then leS a b else cmpI leI a b
noncomputable def one? : List Nat → Option Nat
  | [c] => some c
  | _ => none
noncomputable def inS (a b : V) : Option Bool := (asStr a).bind fun x => (asStr b).bind fun y => (one? x).map fun c => decide (c ∈ y)
theorem inS_is {a b : V} {c : Bool} (h : inS a b = some c) : ∃ x y, a = .str [x] ∧ b = .str y ∧ c = decide (x ∈ y) := by
  obtain ⟨x, hx, h⟩ := Option.bind_eq_some_iff.mp h
  obtain ⟨y, hy, h⟩ := Option.bind_eq_some_iff.mp h
  obtain ⟨z, hz, rfl⟩ := Option.map_eq_some_iff.mp h
  obtain rfl := asStr_is hx
  obtain rfl := asStr_is hy
  unfold one? at hz
  split at hz
  · cases hz; exact ⟨z, y, rfl, rfl, rfl⟩
  · cases hz
noncomputable def isNoneB : V → Bool
  | .none => true
  | _ => false
noncomputable def isV (a b : V) : Option Bool := if isNoneB b = true then isNoneV a else none
theorem isV_is {a b : V} {c : Bool} (h : isV a b = some c) : b = .none ∧ isNoneV a = some c := by
  unfold isV at h
  split at h
  · rename_i q
    exact ⟨(by cases b <;> first | rfl | cases q), h⟩
  · cases h
noncomputable def cmpV (o : CmpOp) (a b : V) : Option Bool := match o with
  | .Lt => cmpI ltI a b
  | .LtE => leV a b
  | .Gt => cmpI gtI a b
  | .GtE => cmpI geI a b
  | .Eq => eqV a b
  | .NotEq => (eqV a b).map (!·)
  | .In => inS a b
  | .NotIn => (inS a b).map (!·)
  | .Is => isV a b
  | .IsNot => (isV a b).map (!·)

noncomputable def CM (w : World) (m : Sem Value) (b : Bool) : Prop :=
  ∀ (A : Around) (s : Shared) (Q : Value → Shared → Prop) (E : Value → Shared → Prop), Q (.bool b) s → wpAny (model pw w) A m Q E s

theorem isNone_of {h : Heap} {ρ : List Addr} {x : Value} {a : V} {b : Bool} (e : isNoneV a = some b) (r : Rep h ρ x a) : (x == Value.none) = b := by
  cases r <;> first | (exact no_some e) | (obtain rfl := Option.some.inj e; rfl)
theorem eqv_sound {w : World} {a b : V} {c : Bool} {A : Around} {s : Shared} {ρ : List Addr} {x y : Value} {Q : Value → Shared → Prop} {E : Value → Shared → Prop} (hu : A.units + 64 < cLine) (e : eqD a b = some c) (ha : Rep s.heap ρ x a) (hb : Rep s.heap ρ y b) (q : Q (.bool c) s) :
    wpAny (model pw w) A (compareOp .Eq x y) Q E s := by
  unfold eqD at e
  split at e
  · rename_i dx dy ex ey
    split at e
    · rename_i hs
      obtain ⟨h1, h2⟩ := Bool.and_eq_true_iff.mp hs
      obtain ⟨as, ra⟩ := rep_reads 6 ha ex
      obtain ⟨bs, rb⟩ := rep_reads 6 hb ey
      obtain rfl := Option.some.inj e
      exact eq_dataH ra rb h1 h2 hu q
    · cases e
  · cases e
theorem nev_sound {w : World} {a b : V} {c : Bool} {A : Around} {s : Shared} {ρ : List Addr} {x y : Value} {Q : Value → Shared → Prop} {E : Value → Shared → Prop} (hu : A.units + 64 < cLine) (e : eqD a b = some c) (ha : Rep s.heap ρ x a) (hb : Rep s.heap ρ y b) (q : Q (.bool (!c)) s) :
    wpAny (model pw w) A (compareOp .NotEq x y) Q E s := by
  unfold eqD at e
  split at e
  · rename_i dx dy ex ey
    split at e
    · rename_i hs
      obtain ⟨h1, h2⟩ := Bool.and_eq_true_iff.mp hs
      obtain ⟨as, ra⟩ := rep_reads 6 ha ex
      obtain ⟨bs, rb⟩ := rep_reads 6 hb ey
      obtain rfl := Option.some.inj e
      exact ne_dataH ra rb h1 h2 hu q
    · cases e
  · cases e
theorem strEq (a b : List Nat) : ((⟨a.toArray⟩ : Str) == ⟨b.toArray⟩) = (a == b) := by
  rw [Bool.eq_iff_iff, beq_iff_eq, beq_iff_eq]
  constructor
  · intro h; injection h with h; simpa using h
  · rintro rfl; rfl
theorem none_rep {h : Heap} {ρ : List Addr} {u : Value} (r : Rep h ρ u .none) : u = .none := by cases r; rfl
theorem eq_sound {w : World} {a b : V} {c : Bool} {A : Around} {s : Shared} {ρ : List Addr} {x y : Value} {Q : Value → Shared → Prop} {E : Value → Shared → Prop} (hu : A.units + 64 < cLine) (e : eqV a b = some c) (ha : Rep s.heap ρ x a) (hb : Rep s.heap ρ y b) :
    (Q (.bool c) s → wpAny (model pw w) A (compareOp .Eq x y) Q E s) ∧ (Q (.bool (!c)) s → wpAny (model pw w) A (compareOp .NotEq x y) Q E s) := by
  unfold eqV at e
  split at e
  · obtain ⟨t, rfl⟩ := int_rep ha
    obtain ⟨u, rfl⟩ := int_rep hb
    obtain rfl := Option.some.inj e
    exact ⟨fun q => eq_int q, fun q => ne_int q⟩
  · obtain ⟨t, rfl⟩ := str_rep ha
    obtain ⟨u, rfl⟩ := str_rep hb
    obtain rfl := Option.some.inj e
    exact ⟨fun q => PyProof.Rows.eq_str (by rw [strEq]; exact q), fun q => PyProof.Rows.ne_str (by rw [bne, strEq]; exact q)⟩
  · exact ⟨fun q => eqv_sound hu e ha hb q, fun q => nev_sound hu e ha hb q⟩
  · cases e
theorem in_str {w : World} {a : Nat} {b : List Nat} {A : Around} {s : Shared} {t u : Tok} {Q : Value → Shared → Prop} {E : Value → Shared → Prop} :
    (Q (.bool (decide (a ∈ b))) s → wpAny (model pw w) A (compareOp .In (.str ⟨[a].toArray⟩ t) (.str ⟨b.toArray⟩ u)) Q E s) ∧ (Q (.bool (!decide (a ∈ b))) s → wpAny (model pw w) A (compareOp .NotIn (.str ⟨[a].toArray⟩ t) (.str ⟨b.toArray⟩ u)) Q E s) := by
  refine ⟨fun q => SB.contains ?_, fun q => SB.notContains ?_⟩
  · unfold Txt.contains
    rw [StrLaws.found_one]; simpa using q
  · unfold Txt.contains
    rw [StrLaws.found_one]; simpa using q
theorem cmp_sound {w : World} {o : CmpOp} {a b : V} {c : Bool} {A : Around} {s : Shared} {ρ : List Addr} {x y : Value} {Q : Value → Shared → Prop} {E : Value → Shared → Prop} (hu : A.units + 64 < cLine) (e : cmpV o a b = some c) (ha : Rep s.heap ρ x a) (hb : Rep s.heap ρ y b) (q : Q (.bool c) s) :
    wpAny (model pw w) A (compareOp o x y) Q E s := by
  have two : ∀ {f : Int → Int → Bool}, cmpI f a b = some c → ∃ i j t u, x = .int i t ∧ y = .int j u ∧ c = f i j := fun h => by
    obtain ⟨i, j, rfl, rfl, rfl⟩ := cmpI_is h
    obtain ⟨t, rfl⟩ := int_rep ha
    obtain ⟨u, rfl⟩ := int_rep hb
    exact ⟨i, j, t, u, rfl, rfl, rfl⟩
  cases o
  · exact (eq_sound hu (show eqV a b = some c from e) ha hb).1 q
  · obtain ⟨d, e', rfl⟩ := Option.map_eq_some_iff.mp (show (eqV a b).map (!·) = some c from e)
    exact (eq_sound hu e' ha hb).2 q
  · obtain ⟨i, j, t, u, rfl, rfl, rfl⟩ := two e
    exact lt_int q
  · have e : leV a b = some c := e
    unfold leV at e
    split at e
    · obtain ⟨l, m, rfl, rfl, rfl⟩ := leS_is e
      obtain ⟨t, rfl⟩ := str_rep ha
      obtain ⟨u, rfl⟩ := str_rep hb
      exact P.le_str (by simpa using q)
    · obtain ⟨i, j, t, u, rfl, rfl, rfl⟩ := two e
      exact le_int q
  · obtain ⟨i, j, t, u, rfl, rfl, rfl⟩ := two e
    exact gt_int q
  · obtain ⟨i, j, t, u, rfl, rfl, rfl⟩ := two e
    exact ge_int q
  · obtain ⟨rfl, e'⟩ := isV_is (show isV a b = some c from e)
    obtain rfl := none_rep hb
    exact is_none (by rw [isNone_of e' ha]; exact q)
  · obtain ⟨d, e', rfl⟩ := Option.map_eq_some_iff.mp (show (isV a b).map (!·) = some c from e)
    obtain ⟨rfl, e''⟩ := isV_is e'
    obtain rfl := none_rep hb
    exact isNot_none (by rw [isNone_of e'' ha]; exact q)
  · obtain ⟨i, l, rfl, rfl, rfl⟩ := inS_is (show inS a b = some c from e)
    obtain ⟨t, rfl⟩ := str_rep ha
    obtain ⟨u, rfl⟩ := str_rep hb
    exact in_str.1 q
  · obtain ⟨d, e', rfl⟩ := Option.map_eq_some_iff.mp (show (inS a b).map (!·) = some c from e)
    obtain ⟨i, l, rfl, rfl, rfl⟩ := inS_is e'
    obtain ⟨t, rfl⟩ := str_rep ha
    obtain ⟨u, rfl⟩ := str_rep hb
    exact in_str.2 q
end Mine
namespace Mine

theorem CellAt.live {w : World} {h : Heap} {ρ : List Addr} {a : Addr} {c : Cell} (x : CellAt w h ρ a c) : ∃ o, h.get? a = some o := by
  cases c with
  | list Vs => obtain ⟨vs, ⟨_, n, e, _⟩, _⟩ := x; exact ⟨_, e⟩
  | arr Vs => obtain ⟨vs, ⟨_, e, _⟩, _⟩ := x; exact ⟨_, e⟩
  | flds fs => obtain ⟨es, n, e, _⟩ := x; exact ⟨_, e⟩
  | tab => obtain ⟨f, ⟨o, es, ep, e, _⟩, _⟩ := x; exact ⟨o, e⟩
theorem CellAt.keeps {w : World} {h h' : Heap} {ρ ρ' : List Addr} {a : Addr} {c : Cell} (x : CellAt w h ρ a c) (g : Grow h ρ h' ρ') (k : ∀ o, h.get? a = some o → h'.get? a = some o) : CellAt w h' ρ' a c := by
  cases c with
  | list Vs => obtain ⟨vs, p, r⟩ := x; exact ⟨vs, p.at fun o e => k o e, r.grow g⟩
  | arr Vs => obtain ⟨vs, p, r⟩ := x; exact ⟨vs, isList_at p k, r.grow g⟩
  | flds fs => obtain ⟨es, n, e, r, q⟩ := x; exact ⟨es, n, k _ e, r.grow g, q⟩
  | tab => obtain ⟨f, ⟨o, es, ep, e, q⟩, r⟩ := x; exact ⟨f, ⟨o, es, ep, k _ e, q⟩, r⟩
theorem Sto.live {w : World} {h : Heap} {ρ : List Addr} {σ : List Cell} (s : Sto w h ρ σ) {a : Addr} (ha : a ∈ ρ) : ∃ o, h.get? a = some o := by
  obtain ⟨i, hi, e⟩ := List.getElem_of_mem ha
  have hi' : i < σ.length := s.len ▸ hi
  exact CellAt.live (c := σ[i]) (s.cell i a σ[i] (by rw [List.getElem?_eq_getElem hi, e]) (by rw [List.getElem?_eq_getElem hi']))
theorem Sto.lt {w : World} {h : Heap} {ρ : List Addr} {σ : List Cell} (s : Sto w h ρ σ) {a : Addr} (ha : a ∈ ρ) : a < h.objs.size :=
  let ⟨_, e⟩ := s.live ha; Heap.lt_size e
theorem Sto.keeps {w : World} {h h' : Heap} {ρ : List Addr} {σ : List Cell} (s : Sto w h ρ σ) (k : ∀ b o, h.get? b = some o → h'.get? b = some o) : Sto w h' ρ σ :=
  ⟨s.len, s.nodup, fun i a c e1 e2 => CellAt.keeps (c := c) (s.cell i a c e1 e2) (.keepAll k) (k a), s.new⟩
theorem Sto.base {w : World} {h : Heap} {ρ : List Addr} {σ : List Cell} (s : Sto w h ρ σ) (i : Inv w h) {a : Addr} (ha : h.get? a = none) : (H1 w.params).get? a = none := by
  cases q : (H1 w.params).get? a with
  | none => rfl
  | some o => rw [i a o q] at ha; cases ha

theorem get?_size {h : Heap} : h.get? h.objs.size = none := by
  cases q : h.get? h.objs.size with
  | none => rfl
  | some o => exact absurd (Heap.lt_size q) (Nat.lt_irrefl _)
theorem push_keeps {h : Heap} (o : Obj) : ∀ b o', h.get? b = some o' → (h.push o).get? b = some o' := fun _ _ e => Heap.get?_push_of_some o e
theorem Sto.offNew {w : World} {h : Heap} {ρ : List Addr} {σ : List Cell} (s : Sto w h ρ σ) : h.objs.size ∉ ρ := fun hm => absurd (s.lt hm) (Nat.lt_irrefl _)
theorem RepL.nil {h : Heap} {ρ : List Addr} : RepL h ρ [] [] := ⟨rfl, fun _ _ _ e => by simp at e⟩
theorem RepL.cons {h : Heap} {ρ : List Addr} {v : Value} {x : V} {vs : List Value} {xs : List V} (r : Rep h ρ v x) (rs : RepL h ρ vs xs) : RepL h ρ (v :: vs) (x :: xs) :=
  ⟨by simp [rs.1], fun i u y e1 e2 => by
    cases i with
    | zero => simp at e1 e2; subst e1 e2; exact r
    | succ i => exact rs.2 i u y (by simpa using e1) (by simpa using e2)⟩
theorem RepL.head {h : Heap} {ρ : List Addr} {vs : List Value} {x : V} {xs : List V} (r : RepL h ρ vs (x :: xs)) : ∃ v us, vs = v :: us ∧ Rep h ρ v x ∧ RepL h ρ us xs := by
  cases vs with
  | nil => simp [RepL] at r
  | cons v us => exact ⟨v, us, rfl, r.2 0 v x rfl rfl, by have := r.1; simpa using this, fun i u y e1 e2 => r.2 (i + 1) u y (by simpa using e1) (by simpa using e2)⟩
theorem RepL.nil_eq {h : Heap} {ρ : List Addr} {vs : List Value} (r : RepL h ρ vs []) : vs = [] := List.length_eq_zero_iff.mp r.1
theorem Sto.newList {w : World} {h : Heap} {ρ : List Addr} {σ : List Cell} {vs : List Value} {Vs : List V} (s : Sto w h ρ σ) (i : Inv w h) (r : RepL h ρ vs Vs) :
    Grow h ρ (h.push (listOf vs.toArray 0)) (ρ ++ [h.objs.size]) ∧ Sto w (h.push (listOf vs.toArray 0)) (ρ ++ [h.objs.size]) (σ ++ [.list Vs]) := by
  have g : Grow h ρ (h.push (listOf vs.toArray 0)) (ρ ++ [h.objs.size]) := ⟨fun b o _ e => push_keeps _ b o e, [h.objs.size], rfl, fun a ha => by rw [List.mem_singleton.mp ha]; exact get?_size⟩
  refine ⟨g, by simp [s.len], ?_, fun j a c e1 e2 => ?_, fun a ha => ?_⟩
  · rw [List.nodup_append]
    exact ⟨s.nodup, by simp, fun a ha b hb => by rw [List.mem_singleton.mp hb]; exact Nat.ne_of_lt (s.lt ha)⟩
  · by_cases hj : j < ρ.length
    · rw [List.getElem?_append_left hj] at e1
      rw [List.getElem?_append_left (s.len ▸ hj)] at e2
      exact CellAt.keeps (c := c) (s.cell j a c e1 e2) g fun o e => push_keeps _ _ _ e
    · have hl : j = ρ.length := by
        have := (List.getElem?_eq_some_iff.mp e1).1
        simp at this; lia
      subst hl
      rw [List.getElem?_append_right (Nat.le_refl _)] at e1
      rw [List.getElem?_append_right (by rw [s.len]; exact Nat.le_refl _)] at e2
      simp [s.len] at e1 e2
      subst e1 e2
      exact ⟨vs, ⟨_, 0, Heap.get?_push_size _ rfl, rfl, rfl, rfl⟩, r.grow g⟩
  · rcases List.mem_append.mp ha with ha | ha
    · exact s.new a ha
    · rw [List.mem_singleton.mp ha]; exact s.base i get?_size

theorem Sto.newArr {w : World} {h : Heap} {ρ : List Addr} {σ : List Cell} {vs : List Value} {Vs : List V} (s : Sto w h ρ σ) (i : Inv w h) (r : RepL h ρ vs Vs) :
    Grow h ρ (h.push (listOf vs.toArray 0)) (ρ ++ [h.objs.size]) ∧ Sto w (h.push (listOf vs.toArray 0)) (ρ ++ [h.objs.size]) (σ ++ [.arr Vs]) := by
  have g : Grow h ρ (h.push (listOf vs.toArray 0)) (ρ ++ [h.objs.size]) := ⟨fun b o _ e => push_keeps _ b o e, [h.objs.size], rfl, fun a ha => by rw [List.mem_singleton.mp ha]; exact get?_size⟩
  refine ⟨g, by simp [s.len], ?_, fun j a c e1 e2 => ?_, fun a ha => ?_⟩
  · rw [List.nodup_append]
    exact ⟨s.nodup, by simp, fun a ha b hb => by rw [List.mem_singleton.mp hb]; exact Nat.ne_of_lt (s.lt ha)⟩
  · by_cases hj : j < ρ.length
    · rw [List.getElem?_append_left hj] at e1
      rw [List.getElem?_append_left (s.len ▸ hj)] at e2
      exact CellAt.keeps (c := c) (s.cell j a c e1 e2) g fun o e => push_keeps _ _ _ e
    · have hl : j = ρ.length := by
        have := (List.getElem?_eq_some_iff.mp e1).1
        simp at this; lia
      subst hl
      rw [List.getElem?_append_right (Nat.le_refl _)] at e1
      rw [List.getElem?_append_right (by rw [s.len]; exact Nat.le_refl _)] at e2
      simp [s.len] at e1 e2
      subst e1 e2
      exact ⟨vs, ⟨_, Heap.get?_push_size _ rfl, rfl, 0, rfl⟩, r.grow g⟩
  · rcases List.mem_append.mp ha with ha | ha
    · exact s.new a ha
    · rw [List.mem_singleton.mp ha]; exact s.base i get?_size

/-! ## expressions -/
noncomputable def TV (w : World) (k : Nat) (env : Env) (ns : List Str) (e : PySem.Expr) (Λ : List (Option V)) (σ : List Cell) (b : Bool) (σ' : List Cell) : Prop :=
  ∀ (A : Around) (s : Shared) (ρ : List Addr) (Q : Bool → Shared → Prop) (E : Value → Shared → Prop), Room A k → Inv w s.heap → Sto w s.heap ρ σ → Loc s.heap ρ env ns Λ →
    (∀ h' tk ρ', Grow s.heap ρ h' ρ' → Sto w h' ρ' σ' → Q b { s with heap := h', toks := tk }) →
    wpAny (model pw w) A (isTrue e env (eval e env)) Q E s
noncomputable def EL (w : World) (k : Nat) (env : Env) (ns : List Str) (es : List PySem.Expr) (Λ : List (Option V)) (σ : List Cell) (vs : List V) (σ' : List Cell) : Prop :=
  ∀ (A : Around) (s : Shared) (ρ : List Addr) (pos : Pos) (Q : List Value → Shared → Prop) (E : Value → Shared → Prop), Room A k → Inv w s.heap → Sto w s.heap ρ σ → Loc s.heap ρ env ns Λ →
    (∀ xs h' tk ρ', Grow s.heap ρ h' ρ' → Sto w h' ρ' σ' → RepL h' ρ' xs vs → Q xs { s with heap := h', toks := tk }) →
    wpAny (model pw w) A (spliced (backTo pos (starEach es env))) Q E s

noncomputable def truthV : V → Option Bool
  | .none => some false
  | .bool b => some b
  | .int i => some (i != 0)
  | _ => none

noncomputable def notStar : PySem.Expr → Bool
  | .Starred .. => false
  | _ => true
theorem starEach_cons {e : PySem.Expr} {rest : List PySem.Expr} {env : Env} (h : notStar e = true) : starEach (e :: rest) env = (false, eval e env) :: starEach rest env := by
  cases e <;> first | rfl | (exact absurd h Bool.false_ne_true)

section
variable {w : World} {k : Nat} {env : Env} {ns : List Str} {Λ : List (Option V)} {σ σ₁ σ₂ σ' : List Cell} {a b c l r : PySem.Expr} {x y z : V} {pos : Pos}

theorem truth_sound {A : Around} {s : Shared} {ρ : List Addr} {u : Value} {v : V} {t : Bool} {Q : Bool → Shared → Prop} {E : Value → Shared → Prop} (e : truthV v = some t) (hr : Rep s.heap ρ u v) (q : Q t s) :
    wpAny (model pw w) A (truthy u) Q E s := by
  cases hr <;> first | (exact no_some e) | (obtain rfl := Option.some.inj e)
  · exact truthy_none q
  · exact wpAny_truthy_bool q
  · exact truthy_int q

theorem EV.bin {o : Operator} (ha : EV w k env ns a Λ σ x σ₁) (hb : EV w k env ns b Λ σ₁ y σ₂) (e : binV o x y = some z) : EV w k env ns (.BinOp a o b pos) Λ σ z σ₂ :=
  fun A s ρ Q E hr hi hs hl q => wpAny_BinOp (ha A s ρ _ E hr hi hs hl fun u h₁ t₁ ρ₁ g₁ s₁ r₁ => hb A _ ρ₁ _ E hr (hi.grow hs g₁) s₁ (hl.grow g₁) fun v h₂ t₂ ρ₂ g₂ s₂ r₂ =>
    bin_sound e (r₁.grow g₂) r₂ A _ ρ₂ _ E hr.hh fun u' tk r' => q u' h₂ tk ρ₂ (g₁.trans g₂ s₂.nodup) s₂ r')
theorem EV.neg {i : Int} (ha : EV w k env ns a Λ σ (.int i) σ₁) : EV w k env ns (.UnaryOp .USub a pos) Λ σ (.int (-i)) σ₁ :=
  fun A s ρ Q E hr hi hs hl q => wpAny_UnaryOp (ha A s ρ _ E hr hi hs hl fun u h₁ t₁ ρ₁ g₁ s₁ r₁ => by
    cases r₁
    exact PyProof.Rows.neg_int (q _ h₁ _ ρ₁ g₁ s₁ (.int _ _)))
theorem EV.chain {o₁ o₂ : CmpOp} {t₁ t₂ : Bool} (ha : EV w k env ns a Λ σ x σ₁) (hb : EV w k env ns b Λ σ₁ y σ₂) (e₁ : cmpV o₁ x y = some t₁)
    (hc : t₁ = true → EV w k env ns c Λ σ₂ z σ' ∧ cmpV o₂ y z = some t₂) (hf : t₁ = false → t₂ = false ∧ σ' = σ₂) (hk : 9 ≤ k) (hm : lastMarks [o₁, o₂] [b, c] = false) :
    EV w k env ns (.Compare a [o₁, o₂] [b, c] pos) Λ σ (.bool t₂) σ' :=
  fun A s ρ Q E hr hi hs hl q => Compare_chain (hm := hm) (ha A s ρ _ E hr hi hs hl fun u h₁ k₁ ρ₁ g₁ s₁ r₁ => chain_link (hb A _ ρ₁ _ E hr (hi.grow hs g₁) s₁ (hl.grow g₁) fun v h₂ k₂ ρ₂ g₂ s₂ r₂ =>
    cmp_sound (ρ := ρ₂) (by have := hr.hu; rw [cLine_is]; lia) e₁ (r₁.grow g₂) r₂ (wpAny_truthy_bool (by
      have g := g₁.trans g₂ s₂.nodup
      cases t₁ with
      | false =>
        obtain ⟨rfl, rfl⟩ := hf rfl
        exact q _ h₂ _ ρ₂ g s₂ (.bool _)
      | true =>
        obtain ⟨hc, e₂⟩ := hc rfl
        exact chain_last (hc A _ ρ₂ _ E hr (hi.grow hs g) s₂ (hl.grow g) fun v' h₃ k₃ ρ₃ g₃ s₃ r₃ =>
          cmp_sound (ρ := ρ₃) (by have := hr.hu; rw [cLine_is]; lia) e₂ (r₂.grow g₃) r₃ (q _ h₃ _ ρ₃ (g.trans g₃ s₃.nodup) s₃ (.bool _)))))))
theorem TV.chain {o₁ o₂ : CmpOp} {t₁ t₂ : Bool} (ha : EV w k env ns a Λ σ x σ₁) (hb : EV w k env ns b Λ σ₁ y σ₂) (e₁ : cmpV o₁ x y = some t₁)
    (hc : t₁ = true → EV w k env ns c Λ σ₂ z σ' ∧ cmpV o₂ y z = some t₂) (hf : t₁ = false → t₂ = false ∧ σ' = σ₂) (hk : 9 ≤ k) (hm : lastMarks [o₁, o₂] [b, c] = false) :
    TV w k env ns (.Compare a [o₁, o₂] [b, c] pos) Λ σ t₂ σ' :=
  fun A s ρ Q E hr hi hs hl q => isTrue_chain (hm := hm) (ha A s ρ _ E hr hi hs hl fun u h₁ k₁ ρ₁ g₁ s₁ r₁ => test_link (hb A _ ρ₁ _ E hr (hi.grow hs g₁) s₁ (hl.grow g₁) fun v h₂ k₂ ρ₂ g₂ s₂ r₂ =>
    cmp_sound (ρ := ρ₂) (by have := hr.hu; rw [cLine_is]; lia) e₁ (r₁.grow g₂) r₂ (wpAny_truthy_bool (by
      have g := g₁.trans g₂ s₂.nodup
      cases t₁ with
      | false =>
        obtain ⟨rfl, rfl⟩ := hf rfl
        exact q h₂ _ ρ₂ g s₂
      | true =>
        obtain ⟨hc, e₂⟩ := hc rfl
        exact test_last (hc A _ ρ₂ _ E hr (hi.grow hs g) s₂ (hl.grow g) fun v' h₃ k₃ ρ₃ g₃ s₃ r₃ =>
          cmp_sound (ρ := ρ₃) (by have := hr.hu; rw [cLine_is]; lia) e₂ (r₂.grow g₃) r₃ (wpAny_truthy_bool (q h₃ _ ρ₃ (g.trans g₃ s₃.nodup) s₃)))))))

theorem TV.not {t : Bool} (ha : TV w k env ns a Λ σ t σ₁) : TV w k env ns (.UnaryOp .Not a pos) Λ σ (!t) σ₁ :=
  fun A s ρ Q E hr hi hs hl q => isTrue_not (ha A s ρ _ E hr hi hs hl fun h₁ t₁ ρ₁ g₁ s₁ => q h₁ t₁ ρ₁ g₁ s₁)
theorem EV.and {t : Bool} (ha : EV w k env ns a Λ σ (.bool t) σ₁) (hb : t = true → EV w k env ns b Λ σ₁ z σ') (hf : t = false → z = .bool false ∧ σ' = σ₁) : EV w k env ns (.BoolOp .And [a, b] pos) Λ σ z σ' :=
  fun A s ρ Q E hr hi hs hl q => wpAny_And2 (ha A s ρ _ E hr hi hs hl fun u h₁ t₁ ρ₁ g₁ s₁ r₁ => by
    cases r₁
    refine wpAny_truthy_bool ?_
    cases t with
    | false => obtain ⟨rfl, rfl⟩ := hf rfl; exact q _ h₁ t₁ ρ₁ g₁ s₁ (.bool _)
    | true => exact hb rfl A _ ρ₁ _ E hr (hi.grow hs g₁) s₁ (hl.grow g₁) fun v h₂ t₂ ρ₂ g₂ s₂ r₂ => q v h₂ t₂ ρ₂ (g₁.trans g₂ s₂.nodup) s₂ r₂)
theorem EV.or {t : Bool} (ha : EV w k env ns a Λ σ (.bool t) σ₁) (hb : t = false → EV w k env ns b Λ σ₁ z σ') (hf : t = true → z = .bool true ∧ σ' = σ₁) : EV w k env ns (.BoolOp .Or [a, b] pos) Λ σ z σ' :=
  fun A s ρ Q E hr hi hs hl q => wpAny_Or2 (ha A s ρ _ E hr hi hs hl fun u h₁ t₁ ρ₁ g₁ s₁ r₁ => by
    cases r₁
    refine wpAny_truthy_bool ?_
    cases t with
    | true => obtain ⟨rfl, rfl⟩ := hf rfl; exact q _ h₁ t₁ ρ₁ g₁ s₁ (.bool _)
    | false => exact hb rfl A _ ρ₁ _ E hr (hi.grow hs g₁) s₁ (hl.grow g₁) fun v h₂ t₂ ρ₂ g₂ s₂ r₂ => q v h₂ t₂ ρ₂ (g₁.trans g₂ s₂.nodup) s₂ r₂)
theorem EV.ite {t : Bool} (ha : TV w k env ns c Λ σ t σ₁) (hb : t = true → EV w k env ns a Λ σ₁ z σ') (hf : t = false → EV w k env ns b Λ σ₁ z σ') : EV w k env ns (.IfExp c a b pos) Λ σ z σ' :=
  fun A s ρ Q E hr hi hs hl q => wpAny_IfExp (ha A s ρ _ E hr hi hs hl fun h₁ t₁ ρ₁ g₁ s₁ => by
    cases t with
    | true => exact hb rfl A _ ρ₁ _ E hr (hi.grow hs g₁) s₁ (hl.grow g₁) fun v h₂ t₂ ρ₂ g₂ s₂ r₂ => q v h₂ t₂ ρ₂ (g₁.trans g₂ s₂.nodup) s₂ r₂
    | false => exact hf rfl A _ ρ₁ _ E hr (hi.grow hs g₁) s₁ (hl.grow g₁) fun v h₂ t₂ ρ₂ g₂ s₂ r₂ => q v h₂ t₂ ρ₂ (g₁.trans g₂ s₂.nodup) s₂ r₂)
noncomputable def plainTest : PySem.Expr → Bool
  | .UnaryOp .Not _ _ => false
  | .BoolOp .. => false
  | .IfExp .. => false
  | .Compare .. => false
  | _ => true
theorem isTrue_of_plain {e : PySem.Expr} {whole : Sem Value} (h : plainTest e = true) : isTrue e env whole = (do let v ← whole; standAt e.pos; holding [v] (truthy v)) := by
  cases e <;> first | rfl | (exact absurd h Bool.false_ne_true) | skip
  rename_i op x p
  cases op <;> first | rfl | (exact absurd h Bool.false_ne_true)
theorem TV.val {t : Bool} (ha : EV w k env ns a Λ σ x σ₁) (e : truthV x = some t) (hp : plainTest a = true) : TV w k env ns a Λ σ t σ₁ :=
  fun A s ρ Q E hr hi hs hl q => isTrue_plain (ha A s ρ _ E hr hi hs hl fun u h₁ t₁ ρ₁ g₁ s₁ r₁ => truth_sound e r₁ (q h₁ t₁ ρ₁ g₁ s₁)) (isTrue_of_plain hp)

theorem EL.nil : EL w k env ns [] Λ σ [] σ := fun A s ρ pos Q E hr hi hs hl q => wpAny_items_nil (q [] s.heap s.toks ρ .refl hs .nil)
theorem EL.cons {es : List PySem.Expr} {xs : List V} (ha : EV w k env ns a Λ σ x σ₁) (hb : EL w k env ns es Λ σ₁ xs σ₂) (hn : notStar a = true) : EL w k env ns (a :: es) Λ σ (x :: xs) σ₂ :=
  fun A s ρ pos Q E hr hi hs hl q => wpAny_items_cons (ha A s ρ _ E hr hi hs hl fun u h₁ t₁ ρ₁ g₁ s₁ r₁ => hb A _ ρ₁ pos _ E hr (hi.grow hs g₁) s₁ (hl.grow g₁) fun us h₂ t₂ ρ₂ g₂ s₂ r₂ =>
    q (u :: us) h₂ t₂ ρ₂ (g₁.trans g₂ s₂.nodup) s₂ (.cons (r₁.grow g₂) r₂)) (starEach_cons hn)
theorem EV.tup {es : List PySem.Expr} {xs : List V} {kk : Nat} (ha : EL w k env ns es Λ σ xs σ₁) (hn : xs.length ≤ 1000) : EV w k env ns (.Tuple es kk pos) Λ σ (.tup xs) σ₁ :=
  fun A s ρ Q E hr hi hs hl q => wpAny_Tuple (ha A s ρ pos _ E hr hi hs hl fun us h₁ t₁ ρ₁ g₁ s₁ r₁ => by
    refine ⟨by rw [r₁.1, sizeLine_eq]; lia, ?_⟩
    have kp := push_keeps (h := h₁) ({ cls := .type "tuple", data := .seq us.toArray } : Obj)
    have g₂ : Grow h₁ ρ₁ (h₁.push { cls := .type "tuple", data := .seq us.toArray }) ρ₁ := .keepAll kp
    have s₂ := s₁.keeps kp
    refine q _ _ t₁ ρ₁ (g₁.trans g₂ s₁.nodup) s₂ (.tup ⟨_, Heap.get?_push_size _ rfl, rfl, 0, rfl⟩ s₁.offNew r₁.1 fun i v x e1 e2 => (r₁.2 i v x e1 e2).grow g₂))
theorem EV.lst {es : List PySem.Expr} {xs : List V} (ha : EL w k env ns es Λ σ xs σ₁) (hn : xs.length ≤ 1000) : EV w k env ns (.List es pos) Λ σ (.ref σ₁.length) (σ₁ ++ [.list xs]) :=
  fun A s ρ Q E hr hi hs hl q => wpAny_List (ha A s ρ pos _ E hr hi hs hl fun us h₁ t₁ ρ₁ g₁ s₁ r₁ => by
    refine ⟨by rw [r₁.1, sizeLine_eq]; lia, ?_⟩
    obtain ⟨g₂, s₂⟩ := s₁.newList (hi.grow hs g₁) r₁
    refine q _ _ t₁ _ (g₁.trans g₂ s₂.nodup) s₂ (.ref ?_)
    rw [← s₁.len]; simp)
theorem EV.arr {es : List PySem.Expr} {xs : List V} (ha : EL w k env ns es Λ σ xs σ₁) (hn : xs.length ≤ 1000) : EV w k env ns (.List es pos) Λ σ (.ref σ₁.length) (σ₁ ++ [.arr xs]) :=
  fun A s ρ Q E hr hi hs hl q => wpAny_List (ha A s ρ pos _ E hr hi hs hl fun us h₁ t₁ ρ₁ g₁ s₁ r₁ => by
    refine ⟨by rw [r₁.1, sizeLine_eq]; lia, ?_⟩
    obtain ⟨g₂, s₂⟩ := s₁.newArr (hi.grow hs g₁) r₁
    refine q _ _ t₁ _ (g₁.trans g₂ s₂.nodup) s₂ (.ref ?_)
    rw [← s₁.len]; simp)
end
end Mine
namespace Mine

noncomputable def solid (o : Obj) : Bool := match o.data with | .seq .. => true | .plain => true | _ => false

theorem Rep.keep {h h' : Heap} {ρ ρ' : List Addr} {v : Value} {x : V} (r : Rep h ρ v x) (k : ∀ b o, b ∉ ρ → solid o = true → h.get? b = some o → h'.get? b = some o ∧ b ∉ ρ')
    (ks : ∀ (i : Nat) (a : Addr), ρ[i]? = some a → ρ'[i]? = some a) : Rep h' ρ' v x := by
  induction r with
  | none => exact .none
  | bool b => exact .bool b
  | int i t => exact .int i t
  | str l t => exact .str l t
  | tup ht ha hl _ ih =>
    obtain ⟨o, ho, hc, n, hd⟩ := ht
    have := k _ o ha (by simp [solid, hd]) ho
    exact .tup ⟨o, this.1, hc, n, hd⟩ this.2 hl ih
  | ref e => exact .ref (ks _ _ e)
  | obj e ha hi =>
    have := k _ _ ha (by simp [solid]) e
    exact .obj this.1 this.2 (ks _ _ hi)
  | lst hl ha hn _ ih =>
    obtain ⟨o, ho, hc, n, hd⟩ := hl
    have := k _ o ha (by simp [solid, hd]) ho
    exact .lst ⟨o, this.1, hc, n, hd⟩ this.2 hn ih
  | g v => exact .g v

theorem nodup_idx {α : Type} {l : List α} (hn : l.Nodup) {i j : Nat} {x : α} (ei : l[i]? = some x) (ej : l[j]? = some x) : i = j := by
  obtain ⟨hi, e⟩ := List.getElem?_eq_some_iff.mp ei
  obtain ⟨hj, e'⟩ := List.getElem?_eq_some_iff.mp ej
  rcases Nat.lt_trichotomy i j with h | h | h
  · exact absurd (e.trans e'.symm) (List.pairwise_iff_getElem.mp hn i j hi hj h)
  · exact h
  · exact absurd (e'.trans e.symm) (List.pairwise_iff_getElem.mp hn j i hj hi h)

structure GrowX (env : Env) (h : Heap) (ρ : List Addr) (h' : Heap) (ρ' : List Addr) : Prop where
  keep : ∀ b o, b ∉ ρ → ¬ InX env b → h.get? b = some o → h'.get? b = some o
  pre : ∃ t, ρ' = ρ ++ t ∧ ∀ a ∈ t, h.get? a = none

section
variable {w : World} {env : Env} {h h' h₁ h₂ h₃ : Heap} {ρ ρ' ρ₁ ρ₂ ρ₃ : List Addr} {ns : List Str} {Λ : List (Option V)} {σ : List Cell}
theorem Grow.toX (g : Grow h ρ h' ρ') : GrowX env h ρ h' ρ' := ⟨fun b o a _ e => g.keep b o a e, g.pre⟩
theorem GrowX.sub (x : GrowX env h ρ h' ρ') {i : Nat} {a : Addr} (e : ρ[i]? = some a) : ρ'[i]? = some a := by
  obtain ⟨t, rfl, _⟩ := x.pre
  rw [List.getElem?_append_left (List.getElem?_eq_some_iff.mp e).1]; exact e
theorem GrowX.off (x : GrowX env h ρ h' ρ') {a : Addr} {o : Obj} (e : h.get? a = some o) (ha : a ∉ ρ) : a ∉ ρ' := by
  obtain ⟨t, rfl, ft⟩ := x.pre
  intro hm
  rcases List.mem_append.mp hm with hm | hm
  · exact ha hm
  · rw [ft a hm] at e; cases e
theorem Loc.live (l : Loc h ρ env ns Λ) {b : Addr} (hb : InX env b) : ∃ o, h.get? b = some o ∧ solid o = false := by
  rcases hb with rfl | ⟨x, e⟩
  · obtain ⟨m, o, es, ep, e, hd, _⟩ := l.has
    exact ⟨o, e, by simp [solid, hd]⟩
  · obtain ⟨_, _, _, u, o, e', hd⟩ := l.offc x b e
    exact ⟨o, e', by simp [solid, hd]⟩
theorem Loc.offX (l : Loc h ρ env ns Λ) {b : Addr} (hb : InX env b) : b ∉ ρ ∧ 464 ≤ b := by
  rcases hb with rfl | ⟨x, e⟩
  · exact ⟨l.off, l.new⟩
  · obtain ⟨a, _, c, _⟩ := l.offc x b e
    exact ⟨a, c⟩
theorem GrowX.trans (x : GrowX env h₁ ρ₁ h₂ ρ₂) (y : GrowX env h₂ ρ₂ h₃ ρ₃) (hn : ρ₃.Nodup) (l : Loc h₂ ρ₂ env ns Λ) : GrowX env h₁ ρ₁ h₃ ρ₃ := by
  obtain ⟨t, rfl, ft⟩ := x.pre
  obtain ⟨u, rfl, fu⟩ := y.pre
  refine ⟨fun b o hb hx e => y.keep b o ?_ hx (x.keep b o hb hx e), t ++ u, by simp, fun a ha => ?_⟩
  · intro hm
    rcases List.mem_append.mp hm with hm | hm
    · exact hb hm
    · rw [ft b hm] at e; cases e
  · rcases List.mem_append.mp ha with ha | ha
    · exact ft a ha
    · cases q : h₁.get? a with
      | none => rfl
      | some o =>
        exfalso
        have hna : a ∉ ρ₁ := fun hm => by
          rw [List.append_assoc, List.nodup_append] at hn
          exact hn.2.2 a hm a (List.mem_append.mpr (.inr ha)) rfl
        have hnx : ¬ InX env a := fun hx => by
          obtain ⟨o', e', _⟩ := l.live hx
          rw [fu a ha] at e'; cases e'
        have := x.keep a o hna hnx q
        rw [fu a ha] at this; cases this
theorem Rep.growX {v : Value} {x : V} (r : Rep h ρ v x) (g : GrowX env h ρ h' ρ') (l : Loc h ρ env ns Λ) : Rep h' ρ' v x :=
  r.keep (fun b o hb hs e => ⟨g.keep b o hb (fun hx => by
    obtain ⟨o', e', hs'⟩ := l.live hx
    rw [e] at e'; cases e'; rw [hs] at hs'; cases hs') e, g.off e hb⟩) fun _ _ e => g.sub e
theorem RepL.growX {v : List Value} {x : List V} (r : RepL h ρ v x) (g : GrowX env h ρ h' ρ') (l : Loc h ρ env ns Λ) : RepL h' ρ' v x :=
  ⟨r.1, fun i v x e1 e2 => (r.2 i v x e1 e2).growX g l⟩
theorem FldsAre.growX (g : GrowX env h ρ h' ρ') (l : Loc h ρ env ns Λ) : ∀ {es : List DictEntry} {fs : List (Str × V)}, FldsAre h ρ es fs → FldsAre h' ρ' es fs
  | [], [], _ => trivial
  | _ :: _, _ :: _, ⟨a, b, c⟩ => ⟨a, b.growX g l, c.growX g l⟩
  | [], _ :: _, x => x
  | _ :: _, [], x => x
theorem CellAt.growX {a : Addr} {c : Cell} (x : CellAt w h ρ a c) (g : GrowX env h ρ h' ρ') (l : Loc h ρ env ns Λ) (k : ∀ o, h.get? a = some o → h'.get? a = some o) : CellAt w h' ρ' a c := by
  cases c with
  | list Vs => obtain ⟨vs, p, r⟩ := x; exact ⟨vs, p.at fun o e => k o e, r.growX g l⟩
  | arr Vs => obtain ⟨vs, p, r⟩ := x; exact ⟨vs, isList_at p k, r.growX g l⟩
  | flds fs => obtain ⟨es, n, e, r, q⟩ := x; exact ⟨es, n, k _ e, r.growX g l, q⟩
  | tab => obtain ⟨f, ⟨o, es, ep, e, q⟩, r⟩ := x; exact ⟨f, ⟨o, es, ep, k _ e, q⟩, r⟩
theorem H1_size (w : World) : (H1 w.params).objs.size = 464 := by kernel_rfl
theorem H1_lt {w : World} {b : Addr} {o : Obj} (e : (H1 w.params).get? b = some o) : b < 464 := H1_size w ▸ Heap.lt_size e
theorem Inv.growX (i : Inv w h) (s : Sto w h ρ σ) (l : Loc h ρ env ns Λ) (g : GrowX env h ρ h' ρ') : Inv w h' := fun b o e =>
  g.keep b o (fun hm => by rw [s.new b hm] at e; cases e) (fun hx => absurd (H1_lt e) (Nat.not_lt.mpr (l.offX hx).2)) (i b o e)
theorem Inv.size (i : Inv w h) : 464 ≤ h.objs.size := by
  have e : ((H1 w.params).get? 463).isSome = true := by kernel_rfl
  obtain ⟨o, e⟩ := Option.isSome_iff_exists.mp e
  exact Heap.lt_size (i 463 o e)

theorem store_sound {A : Around} {s : Shared} {i : Nat} {x : Str} {u : Value} {v : V} {Q : Unit → Shared → Prop} {E : Value → Shared → Prop} (ok : EnvOk env) (hs : Sto w s.heap ρ σ)
    (l : Loc s.heap ρ env ns Λ) (e1 : ns[i]? = some x) (hn : ns.Nodup) (hi : i < Λ.length) (hk : env.kindOf x = some .local ∨ env.kindOf x = some .cell) (r : Rep s.heap ρ u v)
    (q : ∀ h' tk, GrowX env s.heap ρ h' ρ → Sto w h' ρ σ → Loc h' ρ env ns (Λ.set i (some v)) → Q () { s with heap := h', toks := tk }) : wpAny (model pw w) A (storeName env x u) Q E s := by
  have key : ∀ (h' : Heap) (a : Addr), InX env a → Heap.SameBut a s.heap h' → GrowX env s.heap ρ h' ρ ∧ Sto w h' ρ σ := fun h' a ha hb => by
    have k : ∀ b o, b ≠ a → s.heap.get? b = some o → h'.get? b = some o := fun b o hne e => (hb.2 b hne).trans e
    have g : GrowX env s.heap ρ h' ρ := ⟨fun b o _ hx e => k b o (fun q => hx (q ▸ ha)) e, [], by simp, by simp⟩
    exact ⟨g, hs.len, hs.nodup, fun j b c eb ec => CellAt.growX (c := c) (hs.cell j b c eb ec) g l fun o e => k b o (fun q => (l.offX ha).1 (q ▸ List.mem_of_getElem? eb)) e, hs.new⟩
  have vars : ∀ (h' : Heap) (a : Addr), InX env a → Heap.SameBut a s.heap h' → (∀ (m : Str → Option Value), env.locals = a → env.kindOf x = some .local → s.heap.Ns env.locals m → h'.Ns env.locals (fun y => if y = x then some u else m y)) →
      (env.kindOf x = some .cell → env.cells.lookup x = some a ∧ h'.IsCell a (some u)) → (env.kindOf x = some .local → env.locals = a) →
      Loc h' ρ env ns (Λ.set i (some v)) := fun h' a ha hb hloc hcell hla => by
    obtain ⟨g, _⟩ := key h' a ha hb
    have k : ∀ b o, b ≠ a → s.heap.get? b = some o → h'.get? b = some o := fun b o hne e => (hb.2 b hne).trans e
    have kn : ∀ m, env.locals ≠ a → s.heap.Ns env.locals m → h'.Ns env.locals m := fun m hne ⟨o, es, ep, e, r⟩ => ⟨o, es, ep, k _ _ hne e, r⟩
    have kc : ∀ y c z, env.cells.lookup y = some c → c ≠ a → s.heap.IsCell c z → h'.IsCell c z := fun y c z _ hne ⟨o, e, hd⟩ => ⟨o, k _ _ hne e, hd⟩
    refine ⟨?_, l.off, l.new, fun y c ec => ?_, fun j y z ej ez => ?_⟩
    · obtain ⟨m, hm⟩ := l.has
      rcases hk with hk | hk
      · exact ⟨_, hloc m (hla hk) hk hm⟩
      · have hne : env.locals ≠ a := fun q => (l.offc x a (hcell hk).1).2.1 q.symm
        exact ⟨m, kn m hne hm⟩
    · obtain ⟨c1, c2, c3, z, hz⟩ := l.offc y c ec
      refine ⟨c1, c2, c3, ?_⟩
      by_cases hca : c = a
      · subst hca
        rcases hk with hk | hk
        · exact absurd (hla hk).symm c2
        · exact ⟨_, (hcell hk).2⟩
      · exact ⟨z, kc y c z ec hca hz⟩
    · by_cases hji : j = i
      · subst hji
        rw [e1] at ej; obtain rfl := Option.some.inj ej
        rw [List.getElem?_set_self hi] at ez
        obtain rfl := Option.some.inj (Option.some.inj ez)
        refine ⟨u, ?_, r.growX g l⟩
        rcases hk with hk | hk
        · obtain ⟨m, hm⟩ := l.has
          exact .inl ⟨hk, _, hloc m (hla hk) hk hm, by simp⟩
        · exact .inr ⟨.inl hk, a, (hcell hk).1, (hcell hk).2⟩
      · rw [List.getElem?_set_ne (Ne.symm hji)] at ez
        have hyx : y ≠ x := fun q => hji (nodup_idx hn ej (q ▸ e1))
        obtain ⟨u', hu', r'⟩ := l.var j y z ej ez
        refine ⟨u', ?_, r'.growX g l⟩
        rcases hu' with ⟨hk', m, hm, hv⟩ | ⟨hk', c, hc, hv⟩
        · refine .inl ⟨hk', ?_⟩
          rcases hk with hk | hk
          · exact ⟨_, hloc m (hla hk) hk hm, by simp [hyx, hv]⟩
          · have hne : env.locals ≠ a := fun q => (l.offc x a (hcell hk).1).2.1 q.symm
            exact ⟨m, kn m hne hm, hv⟩
        · refine .inr ⟨hk', c, hc, ?_⟩
          have hca : c ≠ a := fun q => by
            rcases hk with hk | hk
            · exact (l.offc y c hc).2.1 (q.trans (hla hk).symm)
            · exact hyx (ok.inj y x c hc (q ▸ (hcell hk).1))
          exact kc y c _ hc hca hv
  rcases hk with hk | hk
  · obtain ⟨m, hm⟩ := l.has
    refine wpAny_storeName_local hk hm (fun h' hns hsb => ?_) (by rw [ok.k]; rfl)
    obtain ⟨g, s'⟩ := key h' _ (.inl rfl) hsb
    refine q h' _ g s' (vars h' _ (.inl rfl) hsb (fun m' _ _ hm' => ?_) (fun hk' => by rw [hk] at hk'; cases hk') fun _ => rfl)
    obtain ⟨o, es, ep, e, hd, hst, hf⟩ := hm
    obtain ⟨o', es', ep', e', hd', hst', hf'⟩ := hm'
    rw [e] at e'; cases e'
    rw [hd] at hd'; cases hd'
    obtain ⟨o₂, es₂, ep₂, e₂, hd₂, hst₂, hf₂⟩ := hns
    exact ⟨o₂, es₂, ep₂, e₂, hd₂, hst₂, fun y => by rw [hf₂ y, ← show (fun y => nsFind _ y) = m from funext hf, ← show (fun y => nsFind _ y) = m' from funext hf']⟩
  · obtain ⟨c, hc⟩ := ok.c x hk
    obtain ⟨c1, c2, c3, z, hz⟩ := l.offc x c hc
    refine wpAny_storeName_cell ok.k hk hc hz fun h' hv hsb => ?_
    obtain ⟨g, s'⟩ := key h' c (.inr ⟨x, hc⟩) hsb
    exact q h' _ g s' (vars h' c (.inr ⟨x, hc⟩) hsb (fun _ q _ _ => absurd q.symm c2) (fun _ => ⟨hc, hv⟩) fun hk' => by rw [hk] at hk'; cases hk')
end
end Mine
namespace Mine

inductive Out where
  | next (Λ : List (Option V)) (σ : List Cell)
  | ret (v : V) (σ : List Cell)
noncomputable def OutOk (w : World) (env : Env) (ns : List Str) (h : Heap) (ρ : List Addr) : Flow → Out → Prop
  | .next, .next Λ σ => Sto w h ρ σ ∧ Loc h ρ env ns Λ
  | .ret u, .ret v σ => Sto w h ρ σ ∧ Rep h ρ u v
  | _, _ => False

noncomputable def E1 (w : World) (k : Nat) (env : Env) (ns : List Str) (st : PySem.Stmt) (Λ : List (Option V)) (σ : List Cell) (o : Out) : Prop :=
  ∀ (A : Around) (s : Shared) (ρ : List Addr) (Q : Flow → Shared → Prop) (E : Value → Shared → Prop), Room A k → Inv w s.heap → Sto w s.heap ρ σ → Loc s.heap ρ env ns Λ →
    (∀ fl h' tk ρ', GrowX env s.heap ρ h' ρ' → OutOk w env ns h' ρ' fl o → Q fl { s with heap := h', toks := tk }) →
    wpAny (model pw w) A (exec st env) Q E s
noncomputable def EX (w : World) (k : Nat) (env : Env) (ns : List Str) (sts : List PySem.Stmt) (Λ : List (Option V)) (σ : List Cell) (o : Out) : Prop :=
  ∀ (A : Around) (s : Shared) (ρ : List Addr) (Q : Flow → Shared → Prop) (E : Value → Shared → Prop), Room A k → Inv w s.heap → Sto w s.heap ρ σ → Loc s.heap ρ env ns Λ →
    (∀ fl h' tk ρ', GrowX env s.heap ρ h' ρ' → OutOk w env ns h' ρ' fl o → Q fl { s with heap := h', toks := tk }) →
    wpAny (model pw w) A (execs sts env) Q E s

theorem GrowX.refl {env : Env} {h : Heap} {ρ : List Addr} : GrowX env h ρ h ρ := ⟨fun _ _ _ _ e => e, [], by simp, by simp⟩

section
variable {w : World} {k : Nat} {env : Env} {ns : List Str} {Λ Λ₁ : List (Option V)} {σ σ₁ σ₂ : List Cell} {e e₂ : PySem.Expr} {v x y z : V} {pos p₂ : Pos} {o : Out} {st : PySem.Stmt} {sts body orelse : List PySem.Stmt}

theorem OutOk.next {h : Heap} {ρ : List Addr} {fl : Flow} (x : OutOk w env ns h ρ fl (.next Λ σ)) : fl = .next ∧ Sto w h ρ σ ∧ Loc h ρ env ns Λ := by
  cases fl <;> first | exact ⟨rfl, x⟩ | exact x.elim
theorem OutOk.ret {h : Heap} {ρ : List Addr} {fl : Flow} (x : OutOk w env ns h ρ fl (.ret v σ)) : ∃ u, fl = .ret u ∧ Sto w h ρ σ ∧ Rep h ρ u v := by
  cases fl <;> first | exact ⟨_, rfl, x⟩ | exact x.elim
theorem OutOk.nodup {h : Heap} {ρ : List Addr} {fl : Flow} (x : OutOk w env ns h ρ fl o) : ρ.Nodup := by
  cases fl <;> cases o <;> first | exact x.1.nodup | exact x.elim

theorem EX.nil : EX w k env ns [] Λ σ (.next Λ σ) := fun A s ρ Q E hr hi hs hl q => wpAny_execs_nil (q .next s.heap s.toks ρ .refl ⟨hs, hl⟩)
theorem EX.cons_next (h₁ : E1 w k env ns st Λ σ (.next Λ₁ σ₁)) (h₂ : EX w k env ns sts Λ₁ σ₁ o) : EX w k env ns (st :: sts) Λ σ o :=
  fun A s ρ Q E hr hi hs hl q => wpAny_execs_cons (h₁ A s ρ _ E hr hi hs hl fun fl h₁ t₁ ρ₁ g₁ o₁ => by
    obtain ⟨rfl, s₁, l₁⟩ := o₁.next
    exact h₂ A _ ρ₁ _ E hr (hi.growX hs hl g₁) s₁ l₁ fun fl h₂ t₂ ρ₂ g₂ o₂ => q fl h₂ t₂ ρ₂ (g₁.trans g₂ o₂.nodup l₁) o₂)
theorem EX.cons_ret (h₁ : E1 w k env ns st Λ σ (.ret v σ₁)) : EX w k env ns (st :: sts) Λ σ (.ret v σ₁) :=
  fun A s ρ Q E hr hi hs hl q => wpAny_execs_cons (h₁ A s ρ _ E hr hi hs hl fun fl h₁ t₁ ρ₁ g₁ o₁ => by
    obtain ⟨u, rfl, _⟩ := id o₁.ret
    exact q _ h₁ t₁ ρ₁ g₁ o₁)
theorem E1.ret (h : EV w k env ns e Λ σ v σ₁) : E1 w k env ns (.Return (some e) pos) Λ σ (.ret v σ₁) :=
  fun A s ρ Q E hr hi hs hl q => wpAny_Return_some (h A s ρ _ E hr hi hs hl fun u h₁ t₁ ρ₁ g₁ s₁ r₁ => q _ h₁ t₁ ρ₁ g₁.toX ⟨s₁, r₁⟩)
theorem E1.ite {t : Bool} (h : TV w k env ns e Λ σ t σ₁) (ht : t = true → EX w k env ns body Λ σ₁ o) (hf : t = false → EX w k env ns orelse Λ σ₁ o) : E1 w k env ns (.If e body orelse pos) Λ σ o :=
  fun A s ρ Q E hr hi hs hl q => wpAny_If (h A s ρ _ E hr hi hs hl fun h₁ t₁ ρ₁ g₁ s₁ => by
    cases t with
    | true => exact ht rfl A _ ρ₁ _ E hr (hi.grow hs g₁) s₁ (hl.grow g₁) fun fl h₂ t₂ ρ₂ g₂ o₂ => q fl h₂ t₂ ρ₂ (g₁.toX.trans g₂ o₂.nodup (hl.grow g₁)) o₂
    | false => exact hf rfl A _ ρ₁ _ E hr (hi.grow hs g₁) s₁ (hl.grow g₁) fun fl h₂ t₂ ρ₂ g₂ o₂ => q fl h₂ t₂ ρ₂ (g₁.toX.trans g₂ o₂.nodup (hl.grow g₁)) o₂)
structure Slot (env : Env) (ns : List Str) (Λ : List (Option V)) (i : Nat) (x : Str) : Prop where
  at_ : ns[i]? = some x
  nd : ns.Nodup
  lt : i < Λ.length
  kind : env.kindOf x = some .local ∨ env.kindOf x = some .cell
theorem E1.assign {n : Str} {i : Nat} (ok : EnvOk env) (h : EV w k env ns e Λ σ v σ₁) (hx : Slot env ns Λ i n) (hw : swapsWith e (some (.Name n p₂)) pos.line env = pure false) :
    E1 w k env ns (.Assign [.Name n p₂] e pos) Λ σ (.next (Λ.set i (some v)) σ₁) :=
  fun A s ρ Q E hr hi hs hl q => wpAny_Assign_Name (h A s ρ _ E hr hi hs hl fun u h₁ t₁ ρ₁ g₁ s₁ r₁ =>
    store_sound ok s₁ (hl.grow g₁) hx.at_ hx.nd hx.lt hx.kind r₁ fun h₂ t₂ g₂ s₂ l₂ => q _ h₂ t₂ ρ₁ (g₁.toX.trans g₂ s₂.nodup (hl.grow g₁)) ⟨s₂, l₂⟩) hw
theorem E1.expr (h : EV w k env ns e Λ σ v σ₁) (hv : ∀ h ρ u, Rep h ρ u v → ∀ a, u ≠ .ref a) (hk : env.scope.kind = .function) (hw : swapsWith e none pos.line env = pure false) : E1 w k env ns (.Expr e pos) Λ σ (.next Λ σ₁) :=
  fun A s ρ Q E hr hi hs hl q => wpAny_Expr (h A s ρ _ E hr hi hs hl fun u h₁ t₁ ρ₁ g₁ s₁ r₁ => by
    have := q .next h₁ t₁ ρ₁ g₁.toX ⟨s₁, hl.grow g₁⟩
    have hu := hv _ _ _ r₁
    cases u <;> first | exact this | exact (hu _ rfl).elim) (by unfold interactive; rw [hk]; rfl) hw

inductive WhileIs (w : World) (k : Nat) (env : Env) (ns : List Str) (test : PySem.Expr) (body : List PySem.Stmt) : Nat → List (Option V) → List Cell → Out → Prop where
  | done (Λ : List (Option V)) (σ σ₁ : List Cell) : TV w k env ns test Λ σ false σ₁ → WhileIs w k env ns test body 0 Λ σ (.next Λ σ₁)
  | ret (Λ : List (Option V)) (σ σ₁ σ₂ : List Cell) (v : V) : TV w k env ns test Λ σ true σ₁ → EX w k env ns body Λ σ₁ (.ret v σ₂) → WhileIs w k env ns test body 0 Λ σ (.ret v σ₂)
  | turn (n : Nat) (Λ Λ₂ : List (Option V)) (σ σ₁ σ₂ : List Cell) (o : Out) : TV w k env ns test Λ σ true σ₁ → EX w k env ns body Λ σ₁ (.next Λ₂ σ₂) → WhileIs w k env ns test body n Λ₂ σ₂ o → WhileIs w k env ns test body (n + 1) Λ σ o
theorem while_sound {test : PySem.Expr} {n : Nat} (h : WhileIs w k env ns test body n Λ σ o) {A : Around} {s : Shared} {ρ : List Addr} {R : Result → Shared → Prop} (hr : Room A k) (hi : Inv w s.heap) (hs : Sto w s.heap ρ σ) (hl : Loc s.heap ρ env ns Λ)
    (q : ∀ fl h' tk ρ', GrowX env s.heap ρ h' ρ' → OutOk w env ns h' ρ' fl o → R (.ok fl) { s with heap := h', toks := tk }) : codeAny (model pw w) A (.whileLoop test body [] env) R s := by
  refine codeAny_whileLoop (fun n s' => ∃ Λ' σ' h' tk ρ', s' = { s with heap := h', toks := tk } ∧ WhileIs w k env ns test body n Λ' σ' o ∧ Inv w h' ∧ Sto w h' ρ' σ' ∧ Loc h' ρ' env ns Λ' ∧ GrowX env s.heap ρ h' ρ') ?_ n
    ⟨Λ, σ, s.heap, s.toks, ρ, rfl, h, hi, hs, hl, .refl⟩
  rintro n s' ⟨Λ', σ', h', tk, ρ', rfl, hw, hi', hs', hl', g'⟩
  cases hw with
  | done _ _ σ₁ ht => exact ht A _ ρ' _ _ hr hi' hs' hl' fun h₁ t₁ ρ₁ g₁ s₁ => wpAny_execs_nil (q .next h₁ t₁ ρ₁ (g'.trans g₁.toX s₁.nodup hl') ⟨s₁, hl'.grow g₁⟩)
  | ret _ _ σ₁ σ₂ v ht hb =>
    refine ht A _ ρ' _ _ hr hi' hs' hl' fun h₁ t₁ ρ₁ g₁ s₁ => ?_
    refine hb A _ ρ₁ _ _ hr (hi'.grow hs' g₁) s₁ (hl'.grow g₁) fun fl h₂ t₂ ρ₂ g₂ o₂ => ?_
    obtain ⟨u, rfl, _⟩ := id o₂.ret
    exact q _ h₂ t₂ ρ₂ (g'.trans (g₁.toX.trans g₂ o₂.nodup (hl'.grow g₁)) o₂.nodup hl') o₂
  | turn m _ Λ₂ _ σ₁ σ₂ _ ht hb hw' =>
    refine ht A _ ρ' _ _ hr hi' hs' hl' fun h₁ t₁ ρ₁ g₁ s₁ => ?_
    refine hb A _ ρ₁ _ _ hr (hi'.grow hs' g₁) s₁ (hl'.grow g₁) fun fl h₂ t₂ ρ₂ g₂ o₂ => ?_
    obtain ⟨rfl, s₂, l₂⟩ := o₂.next
    exact ⟨m, Nat.lt_succ_self m, Λ₂, σ₂, h₂, t₂, ρ₂, rfl, hw', (hi'.grow hs' g₁).growX s₁ (hl'.grow g₁) g₂, s₂, l₂, g'.trans (g₁.toX.trans g₂ s₂.nodup (hl'.grow g₁)) s₂.nodup hl'⟩
theorem E1.while {test : PySem.Expr} {n : Nat} (h : WhileIs w k env ns test body n Λ σ o) : E1 w k env ns (.While test body [] pos) Λ σ o :=
  fun A s ρ Q E hr hi hs hl q => wpAny_While (while_sound h (A := A.mark none) ⟨hr.hh, hr.hd, hr.hu⟩ hi hs hl q)
end
end Mine
namespace Mine

/-! ## calls -/
noncomputable def CallOk (w : World) (k : Nat) (a : Addr) (args : List V) (σ : List Cell) (v : V) (σ' : List Cell) : Prop :=
  ∀ (A : Around) (s : Shared) (ρ : List Addr) (xs : List Value) (R : Result → Shared → Prop), Room A k → Inv w s.heap → Sto w s.heap ρ σ → RepL s.heap ρ xs args →
    (∀ u h' tk ρ', Grow s.heap ρ h' ρ' → Sto w h' ρ' σ' → Rep h' ρ' u v → R (.ok (.ret u)) { s with heap := h', toks := tk }) → codeAny (model pw w) A (.call (.ref a) ⟨xs, []⟩) R s

noncomputable def start (args : List V) (n : Nat) : List (Option V) := args.map some ++ List.replicate (n - args.length) none

theorem bindL_zip (kd : Str → Option NameKind) : ∀ (ps : List Str) (vs : List Value) (m : Str → Option Value), ps.Nodup → ∀ (i : Nat) (x : Str) (v : Value), ps[i]? = some x → vs[i]? = some v → kd x = some .local →
    bindL kd (ps.zip vs) m x = some v := by
  have other : ∀ (ps : List Str) (vs : List Value) (m : Str → Option Value) (x : Str), x ∉ ps → bindL kd (ps.zip vs) m x = m x := by
    intro ps
    induction ps with
    | nil => intro vs m x _; rfl
    | cons p ps ih =>
      intro vs m x hx
      cases vs with
      | nil => rfl
      | cons v vs =>
        show bindL kd (ps.zip vs) _ x = m x
        rw [ih vs _ x (fun h => hx (.tail _ h))]
        have hne : x ≠ p := fun e => hx (e ▸ .head _)
        split <;> simp [hne]
  intro ps
  induction ps with
  | nil => intro vs m _ i x v e; simp at e
  | cons p ps ih =>
    intro vs m hn i x v ex ev hk
    cases vs with
    | nil => simp at ev
    | cons u us =>
      obtain ⟨h1, h2⟩ := List.nodup_cons.mp hn
      cases i with
      | zero =>
        simp at ex ev; subst ex ev
        show bindL kd (ps.zip us) _ p = some u
        rw [other ps us _ p h1, if_pos hk]; simp
      | succ i => exact ih us _ h2 i x v (by simpa using ex) (by simpa using ev) hk
theorem bindC_zip (kd : Str → Option NameKind) : ∀ (ps : List Str) (vs : List Value) (m : Str → Option Value), ps.Nodup → ∀ (i : Nat) (x : Str) (v : Value), ps[i]? = some x → vs[i]? = some v → kd x ≠ some .local →
    bindC kd (ps.zip vs) m x = some v := by
  have other : ∀ (ps : List Str) (vs : List Value) (m : Str → Option Value) (x : Str), x ∉ ps → bindC kd (ps.zip vs) m x = m x := by
    intro ps
    induction ps with
    | nil => intro vs m x _; rfl
    | cons p ps ih =>
      intro vs m x hx
      cases vs with
      | nil => rfl
      | cons v vs =>
        show bindC kd (ps.zip vs) _ x = m x
        rw [ih vs _ x (fun h => hx (.tail _ h))]
        have hne : x ≠ p := fun e => hx (e ▸ .head _)
        split <;> simp [hne]
  intro ps
  induction ps with
  | nil => intro vs m _ i x v e; simp at e
  | cons p ps ih =>
    intro vs m hn i x v ex ev hk
    cases vs with
    | nil => simp at ev
    | cons u us =>
      obtain ⟨h1, h2⟩ := List.nodup_cons.mp hn
      cases i with
      | zero =>
        simp at ex ev; subst ex ev
        show bindC kd (ps.zip us) _ p = some u
        rw [other ps us _ p h1, if_neg hk]; simp
      | succ i => exact ih us _ h2 i x v (by simpa using ex) (by simpa using ev) hk
theorem lookup_cells : ∀ (names : List (Str × NameKind)) (n : Nat) (acc : List (Str × Addr)) (x : Str), names.lookup x = some .cell ∨ (acc.lookup x).isSome = true → ((cellsFrom n names acc).lookup x).isSome = true
  | [], _, acc, x, h => by
    rcases h with h | h
    · simp at h
    · exact h
  | (y, kind) :: r, n, acc, x, h => by
    unfold cellsFrom
    split
    · rename_i hk
      refine lookup_cells r _ _ x ?_
      by_cases q : x = y
      · right; simp [q, List.lookup_cons]
      · rw [List.lookup_cons]
        rw [List.lookup_cons] at h
        simpa [beq_false_of_ne q] using h
    · rename_i hk
      refine lookup_cells r _ _ x ?_
      by_cases q : x = y
      · rw [List.lookup_cons] at h
        rcases h with h | h
        · simp [q] at h; exact absurd (by simp [h]) hk
        · exact .inr h
      · rw [List.lookup_cons] at h
        simpa [beq_false_of_ne q] using h

structure FunAt (w : World) (a : Addr) (st : Stmt) (qual : Str) (ps ns : List Str) : Prop where
  obj : ∃ o fd, (H1 w.params).get? a = some o ∧ o.data = .func fd ∧ (H1 w.params).CodeRec fd.code fd.qualname ∧ fd.body = .stmts (fBody st) ∧ fd.scope = fScope st ∧ fd.globals = mainGlobals ∧ fd.builtins = builtinsNs ∧ fd.closure = [] ∧
    ∀ vs : List Value, vs.length = ps.length → bindArgs fd ⟨vs, []⟩ = pure (ps.zip vs)
  kind : (fScope st).kind = .function
  co : (fScope st).isCoroutine = false
  gen : (fScope st).isGenerator = false
  nd : ns.Nodup
  pre : ∃ t, ns = ps ++ t
  par : ∀ x ∈ ps, (fScope st).names.lookup x = some .local ∨ (fScope st).names.lookup x = some .cell

noncomputable def Out.val : Out → V × List Cell
  | .next _ σ => (.none, σ)
  | .ret v σ => (v, σ)

theorem call_sound {w : World} {k : Nat} {a : Addr} {st : Stmt} {qual : Str} {ps ns : List Str} (F : FunAt w a st qual ps ns) {args : List V} {σ σ' : List Cell} {v : V} {o : Out} (hn : args.length = ps.length)
    (hb : ∀ env, EnvOk env → env.scope = fScope st → EX w k env ns (fBody st) (start args ns.length) σ o) (ho : o.val = (v, σ')) : CallOk w (k + 1) a args σ v σ' := by
  intro A s ρ xs R hr hi hs hx q
  obtain ⟨ob, fd, eo, ed, ec, eb, es, eg, ebi, ecl, ebind⟩ := F.obj
  obtain ⟨t, rfl⟩ := F.pre
  have hlen : xs.length = ps.length := hx.1.trans hn
  have hnd : ps.Nodup := (List.nodup_append.mp F.nd).1
  have hsz := hi.size
  have hroom : A.depth < recursionLimit := by
    have := hr.hd
    show A.depth < 1000
    lia
  have hck : ∀ x n, fd.scope.names.lookup x = some .cell → ((cellsFrom n fd.scope.names []).lookup x).isSome = true := fun x n h => lookup_cells _ _ _ _ (.inl h)
  refine codeAny_call_cells (fd := fd) (body := fBody st) (binds := ps.zip xs) hroom (hi a ob eo) ed hi.noLimit (ec.keeps hi) eb (ebind xs hlen) ecl (fun x hxm => ?_) (fun s₁ hI => ?_) (by rw [es]; exact F.co) (by rw [es]; exact F.gen) (by rw [es]; exact F.kind)
  · have hp : x.1 ∈ ps := (List.of_mem_zip (a := x.1) (b := x.2) hxm).1
    rcases F.par x.1 hp with h | h
    · exact .inl (by rw [es]; exact h)
    · exact .inr ⟨by rw [es]; exact h, hck _ _ (by rw [es]; exact h)⟩
  · generalize hL : s.heap.objs.size = L at hI hsz
    obtain ⟨⟨⟨h₁, tk, rfl⟩, hns, hkeep, _⟩, hcell, hap, hab⟩ := hI
    have g₁ : Grow s.heap ρ h₁ ρ := .keepAll hkeep
    have hLρ : ∀ c, L ≤ c → c ∉ ρ := fun c hc hm => Nat.not_lt.mpr hc (hL ▸ hs.lt hm)
    have ok : EnvOk (callEnvC fd L a) := ⟨eg, ebi, by show fd.scope.kind = _; rw [es]; exact F.kind, fun x hx => Option.isSome_iff_exists.mp (hck x _ hx), fun x y c ex ey => name_of_addr hap (mem_of_lookup ex) (mem_of_lookup ey)⟩
    have hl : Loc h₁ ρ (callEnvC fd L a) (ps ++ t) (start args (ps ++ t).length) := by
      refine ⟨⟨_, hns⟩, hLρ L (Nat.le_refl _), hsz, fun x c ex => ?_, fun i x z ex ez => ?_⟩
      · have := hab x c (mem_of_lookup ex)
        have h2 : L < c := this
        exact ⟨hLρ c (Nat.le_of_lt h2), fun e => absurd h2 (by rw [e]; exact Nat.lt_irrefl _), Nat.le_trans hsz (Nat.le_of_lt h2), _, hcell x c ex⟩
      · have hi' : i < args.length := by
          by_cases h : i < args.length
          · exact h
          · exfalso
            unfold start at ez
            rw [List.getElem?_append_right (by simpa using h)] at ez
            have := List.mem_of_getElem? ez
            simp at this
        unfold start at ez
        rw [List.getElem?_append_left (by simpa using hi')] at ez
        have hz : args[i]? = some z := by
          rw [List.getElem?_map] at ez
          cases q : args[i]? with
          | none => rw [q] at ez; simp at ez
          | some y => rw [q] at ez; simpa using ez
        rw [List.getElem?_append_left (by rw [← hn]; exact hi')] at ex
        have hv : ∃ u, xs[i]? = some u := ⟨xs[i]'(by rw [hlen, ← hn]; exact hi'), List.getElem?_eq_getElem _⟩
        obtain ⟨u, hu⟩ := hv
        refine ⟨u, ?_, (hx.2 i u z hu hz).grow g₁⟩
        rcases F.par x (List.mem_of_getElem? ex) with h | h
        · have hk : (callEnvC fd L a).kindOf x = some .local := by show fd.scope.names.lookup x = _; rw [es]; exact h
          exact .inl ⟨hk, _, hns, bindL_zip _ ps xs _ hnd i x u ex hu hk⟩
        · have hk : (callEnvC fd L a).kindOf x = some .cell := by show fd.scope.names.lookup x = _; rw [es]; exact h
          obtain ⟨c, hc⟩ := ok.c x hk
          refine .inr ⟨.inl hk, c, hc, ?_⟩
          have := hcell x c hc
          rwa [bindC_zip _ ps xs _ hnd i x u ex hu (by rw [hk]; decide)] at this
    refine hb _ ok es (A.deeper _) _ ρ _ _ ⟨hr.hh, by have := hr.hd; show A.depth + 1 + k < 900; lia, by have := hr.hu; show A.units + 3 + 8 * k < 9900; lia⟩ (hi.grow hs g₁) (hs.keeps hkeep) hl fun fl h₂ tk₂ ρ₂ g₂ o₂ => ?_
    have g : Grow s.heap ρ h₂ ρ₂ := by
      refine ⟨fun b o hb e => g₂.keep b o hb (fun hx' => ?_) (hkeep b o e), ?_⟩
      · have hlt : b < L := hL ▸ Heap.lt_size e
        rcases hx' with hx' | ⟨y, ey⟩
        · exact Nat.lt_irrefl L (show L < L from (show b = L from hx') ▸ hlt)
        · exact Nat.lt_asymm hlt (hab y b (mem_of_lookup ey))
      · obtain ⟨t, e, f⟩ := g₂.pre
        refine ⟨t, e, fun b hb => ?_⟩
        cases q : s.heap.get? b with
        | none => rfl
        | some o => have := f b hb; rw [hkeep b o q] at this; cases this
    cases o with
    | next Λ' σ₂ =>
      obtain ⟨rfl, s₂, _⟩ := o₂.next
      obtain ⟨rfl, rfl⟩ := Prod.mk.inj ho
      exact q _ h₂ tk₂ ρ₂ g s₂ .none
    | ret v' σ₂ =>
      obtain ⟨u, rfl, s₂, r₂⟩ := o₂.ret
      obtain ⟨rfl, rfl⟩ := Prod.mk.inj ho
      exact q _ h₂ tk₂ ρ₂ g s₂ r₂
end Mine
namespace Mine

section
variable {w : World} {k j : Nat} {env : Env} {ns : List Str} {Λ Λ₁ : List (Option V)} {σ σ₁ σ₂ : List Cell} {e e₂ : PySem.Expr} {es : List PySem.Expr} {v x y z : V} {vs : List V} {pos p₂ : Pos} {o : Out}

theorem CallOk.le {a : Addr} (h : CallOk w j a vs σ v σ₁) (hj : j ≤ k) : CallOk w k a vs σ v σ₁ := fun A s ρ xs R hr => h A s ρ xs R (hr.le hj)

noncomputable def noStars (es : List PySem.Expr) : Bool := es.all notStar
theorem trees_plain : ∀ {es : List PySem.Expr}, noStars es = true → ∀ (pos : Pos), (backTo pos (starEach es env)).any (·.1) = false
  | [], _, _ => rfl
  | e :: es, h, pos => by
    have h' : notStar e = true ∧ noStars es = true := by simpa [noStars] using h
    rw [starEach_cons h'.1]
    show (false || (backTo pos (starEach es env)).any (·.1)) = false
    rw [trees_plain h'.2 pos]; rfl
theorem evalArgs_es {M : Model} {A : Around} {s : Shared} {E : Value → Shared → Prop} {f : Value} {Q : Args → Shared → Prop} (hn : noStars es = true) (h : wpAny M A (spliced (backTo pos (starEach es env))) (fun xs s' => Q ⟨xs, []⟩ s') E s) :
    wpAny M A (evalArgs f true (backTo pos (starEach es env)) []) Q E s := by
  cases es with
  | nil =>
    unfold evalArgs
    refine wpAny_bind (wpAny_mono h (fun vs s' h' => ?_) fun _ _ x => x)
    refine wpAny_bind (wpAny_pure ?_)
    refine wpAny_holding ?_
    exact wpAny_bind (wpAny_pure (wpAny_bind (wpAny_pure (wpAny_pure h'))))
  | cons e es =>
    have h' : notStar e = true ∧ noStars es = true := by simpa [noStars] using hn
    rw [starEach_cons h'.1] at h ⊢
    exact evalArgs_plain h

noncomputable def FnIs (w : World) (x : Str) (a : Addr) : Prop := (H1 w.params).nsMap mainGlobals x = some (.ref a) ∧ ∃ o fd, (H1 w.params).get? a = some o ∧ o.data = .func fd
theorem EV.call {n : Str} {a : Addr} (ok : EnvOk env) (hx : env.kindOf n = some .globalImplicit) (hd : (n == ("__debug__" : Str)) = false) (hg : FnIs w n a) (hs' : noStars es = true)
    (ha : EL w k env ns es Λ σ vs σ₁) (hc : CallOk w k a vs σ₁ v σ₂) : EV w k env ns (.Call (.Name n p₂) es [] pos) Λ σ v σ₂ :=
  fun A s ρ Q E hr hi hs hl q => Call_Name rfl (Name_function_global ok.k hx (loadGlobal_global (by rw [ok.g]; exact hi.gl) hg.1 (by
    obtain ⟨ob, fd, eo, ed⟩ := hg.2
    refine callWith_function (o := ob) (fd := fd) (evalArgs_es hs' (ha A s ρ pos _ E hr hi hs hl fun xs h₁ t₁ ρ₁ g₁ s₁ r₁ => ⟨⟨(hi.grow hs g₁) a ob eo, ed⟩, wpAny_call ?_⟩))
    refine hc A _ ρ₁ _ _ hr (hi.grow hs g₁) s₁ r₁ fun u h₂ t₂ ρ₂ g₂ s₂ r₂ => q u h₂ t₂ ρ₂ (g₁.trans g₂ s₂.nodup) s₂ r₂)) hd)

/-! ## builtins -/
noncomputable def BiOk (w : World) (k : Nat) (f : Value) (args : List V) (σ : List Cell) (v : V) : Prop :=
  ∀ (A : Around) (s : Shared) (ρ : List Addr) (xs : List Value) (Q : Value → Shared → Prop) (E : Value → Shared → Prop), Room A k → Inv w s.heap → Sto w s.heap ρ σ → RepL s.heap ρ xs args →
    (∀ u h' tk, (∀ b o, s.heap.get? b = some o → h'.get? b = some o) → Rep h' ρ u v → Q u { s with heap := h', toks := tk }) → wpAny (model pw w) A (call f xs) Q E s
noncomputable def BiIs (w : World) (x : Str) (f : Value) : Prop := (H1 w.params).nsMap mainGlobals x = none ∧ (H1 w.params).nsMap builtinsNs x = some f
theorem EV.bi {n : Str} {f : Value} (ok : EnvOk env) (hx : env.kindOf n = some .globalImplicit) (hd : (n == ("__debug__" : Str)) = false) (hg : BiIs w n f) (hf : (∃ id, f = .builtin id) ∨ ∃ T, f = .type T) (hs' : noStars es = true)
    (ha : EL w k env ns es Λ σ vs σ₁) (hc : BiOk w k f vs σ₁ v) : EV w k env ns (.Call (.Name n p₂) es [] pos) Λ σ v σ₁ :=
  fun A s ρ Q E hr hi hs hl q => Call_Name rfl (Name_function_global ok.k hx (loadGlobal_builtin (by rw [ok.g]; exact hi.gl) hg.1 (by rw [ok.b]; exact hi.bl) hg.2 (by
    have go : wpAny (model pw w) A (evalArgs f true (backTo pos (starEach es env)) []) (fun a s₁ => wpAny (model pw w) A (PySem.call f ([] ++ a.pos) a.kw) Q E s₁) E s :=
      evalArgs_es hs' (ha A s ρ pos _ E hr hi hs hl fun xs h₁ t₁ ρ₁ g₁ s₁ r₁ =>
        hc A _ ρ₁ _ _ _ hr (hi.grow hs g₁) s₁ r₁ fun u h₂ t₂ k₂ r₂ => q u h₂ t₂ ρ₁ (g₁.trans (.keepAll k₂) s₁.nodup) (s₁.keeps k₂) r₂)
    rcases hf with ⟨id, rfl⟩ | ⟨T, rfl⟩
    · exact PySem.Calls.callWith_builtin (trees_plain hs' pos) go
    · exact PyProof.Rows.callWith_type (trees_plain hs' pos) go)) hd)

theorem RepL.one {h : Heap} {ρ : List Addr} {xs : List Value} (r : RepL h ρ xs [x]) : ∃ u, xs = [u] ∧ Rep h ρ u x := by
  obtain ⟨u, us, rfl, ru, rs⟩ := r.head
  obtain rfl := rs.nil_eq
  exact ⟨u, rfl, ru⟩
theorem RepL.two {h : Heap} {ρ : List Addr} {xs : List Value} (r : RepL h ρ xs [x, y]) : ∃ u v, xs = [u, v] ∧ Rep h ρ u x ∧ Rep h ρ v y := by
  obtain ⟨u, us, rfl, ru, rs⟩ := r.head
  obtain ⟨v, rfl, rv⟩ := rs.one
  exact ⟨u, v, rfl, ru, rv⟩

theorem Bi.len_str {l : List Nat} (h : l.length < 2 ^ 63) : BiOk w k (.builtin "len") [.str l] σ (.int l.length) := fun A s ρ xs Q E hr hi hs hx q => by
  obtain ⟨u, rfl, ru⟩ := hx.one
  cases ru
  exact PySem.P.len_str (by show ¬ ((l.toArray.size : Nat) : Int) ≥ _; simp; lia) (q _ s.heap _ (fun _ _ e => e) (by show Rep _ _ (.int ((l.toArray.size : Nat) : Int) _) _; simp; exact .int _ _))
theorem Bi.ord {c : Nat} : BiOk w k (.builtin "ord") [.str [c]] σ (.int c) := fun A s ρ xs Q E hr hi hs hx q => by
  obtain ⟨u, rfl, ru⟩ := hx.one
  cases ru
  exact PySem.P.ord_of_char (q _ s.heap _ (fun _ _ e => e) (.int _ _))
theorem Bi.chr {i : Int} (h0 : 0 ≤ i) (h1 : i ≤ 0x10FFFF) : BiOk w k (.builtin "chr") [.int i] σ (.str [i.toNat]) := fun A s ρ xs Q E hr hi hs hx q => by
  obtain ⟨u, rfl, ru⟩ := hx.one
  cases ru
  exact PySem.P.chr_of_int (by simp; lia) (q _ s.heap _ (fun _ _ e => e) (.str [i.toNat] _))
theorem Bi.abs {i : Int} : BiOk w k (.builtin "abs") [.int i] σ (.int (if i < 0 then -i else i)) := fun A s ρ xs Q E hr hi hs hx q => by
  obtain ⟨u, rfl, ru⟩ := hx.one
  cases ru
  exact PyProof.Rows.call_abs_int fun u tk => q _ s.heap _ (fun _ _ e => e) (.int _ _)
theorem Bi.max {a b : Int} : BiOk w k (.builtin "max") [.int a, .int b] σ (.int (max a b)) := fun A s ρ xs Q E hr hi hs hx q => by
  obtain ⟨u, v, rfl, ru, rv⟩ := hx.two
  cases ru; cases rv
  refine max_two_ints hr.hh fun h' tk hk => ?_
  by_cases c : b > a
  · rw [if_pos c]; exact q _ h' _ hk (by rw [Int.max_eq_right (Int.le_of_lt c)]; exact .int _ _)
  · rw [if_neg c]; exact q _ h' _ hk (by rw [Int.max_eq_left (Int.not_lt.mp c)]; exact .int _ _)
theorem Bi.min {a b : Int} : BiOk w k (.builtin "min") [.int a, .int b] σ (.int (min a b)) := fun A s ρ xs Q E hr hi hs hx q => by
  obtain ⟨u, v, rfl, ru, rv⟩ := hx.two
  cases ru; cases rv
  refine min_two_ints hr.hh fun h' tk hk => ?_
  by_cases c : b < a
  · rw [if_pos c]; exact q _ h' _ hk (by rw [Int.min_eq_right (Int.le_of_lt c)]; exact .int _ _)
  · rw [if_neg c]; exact q _ h' _ hk (by rw [Int.min_eq_left (Int.not_lt.mp c)]; exact .int _ _)
theorem Bi.int_int {i : Int} : BiOk w k (.type "int") [.int i] σ (.int i) := fun A s ρ xs Q E hr hi hs hx q => by
  obtain ⟨u, rfl, ru⟩ := hx.one
  cases ru
  exact PySem.call_int_int (q _ s.heap s.toks (fun _ _ e => e) (.int _ _))
theorem Bi.int_bool {b : Bool} : BiOk w k (.type "int") [.bool b] σ (.int (if b then 1 else 0)) := fun A s ρ xs Q E hr hi hs hx q => by
  obtain ⟨u, rfl, ru⟩ := hx.one
  cases ru
  exact PySem.call_int_bool (q _ s.heap _ (fun _ _ e => e) (.int _ _))
theorem Bi.int_str {l : List Nat} {n : Int} (hn : PySem.intText? ⟨l.toArray⟩ = some n) (hl : l.length ≤ 640) : BiOk w k (.type "int") [.str l] σ (.int n) := fun A s ρ xs Q E hr hi hs hx q => by
  obtain ⟨u, rfl, ru⟩ := hx.one
  cases ru
  exact PySem.W.KIN.call_text hn (by show l.toArray.size ≤ 640; simpa using hl) (q _ s.heap _ (fun _ _ e => e) (.int _ _))
theorem Bi.str_int {i : Int} (hi' : i.natAbs.log2 < 1920) : BiOk w k (.type "str") [.int i] σ (.str (Str.ofString (toString i)).cps.toList) := fun A s ρ xs Q E hr hi hs hx q => by
  obtain ⟨u, rfl, ru⟩ := hx.one
  cases ru
  exact PySem.P.str_of_int hi' (q _ s.heap _ (fun _ _ e => e) (.str (Str.ofString (toString i)).cps.toList _))
end
end Mine
namespace Mine

/-! ## targets -/
noncomputable def TG (w : World) (k : Nat) (env : Env) (ns : List Str) (t : PySem.Expr) (v : V) (Λ : List (Option V)) (σ : List Cell) (Λ' : List (Option V)) (σ' : List Cell) : Prop :=
  ∀ (A : Around) (s : Shared) (ρ : List Addr) (u : Value) (Q : Unit → Shared → Prop) (E : Value → Shared → Prop), Room A k → Inv w s.heap → Sto w s.heap ρ σ → Loc s.heap ρ env ns Λ → Rep s.heap ρ u v →
    (∀ h' tk, GrowX env s.heap ρ h' ρ → Sto w h' ρ σ' → Loc h' ρ env ns Λ' → Q () { s with heap := h', toks := tk }) → wpAny (model pw w) A (assign t env u) Q E s
noncomputable def TGL (w : World) (k : Nat) (env : Env) (ns : List Str) (ts : List PySem.Expr) (vs : List V) (Λ : List (Option V)) (σ : List Cell) (Λ' : List (Option V)) (σ' : List Cell) : Prop :=
  ∀ (A : Around) (s : Shared) (ρ : List Addr) (us : List Value) (Q : Unit → Shared → Prop) (E : Value → Shared → Prop), Room A k → Inv w s.heap → Sto w s.heap ρ σ → Loc s.heap ρ env ns Λ → RepL s.heap ρ us vs →
    (∀ h' tk, GrowX env s.heap ρ h' ρ → Sto w h' ρ σ' → Loc h' ρ env ns Λ' → Q () { s with heap := h', toks := tk }) → wpAny (model pw w) A (assignInOrder ((assignEach ts env).map (·.2)) us) Q E s

section
variable {w : World} {k j : Nat} {env : Env} {ns : List Str} {Λ Λ₁ Λ₂ : List (Option V)} {σ σ₁ σ₂ : List Cell} {e e₂ t : PySem.Expr} {ts : List PySem.Expr} {v x y z : V} {vs : List V} {pos p₂ : Pos} {o : Out} {body : List PySem.Stmt}

theorem TG.name {n : Str} {i : Nat} (ok : EnvOk env) (hx : Slot env ns Λ i n) : TG w k env ns (.Name n pos) v Λ σ (Λ.set i (some v)) σ :=
  fun A s ρ u Q E hr hi hs hl r q => PyProof.Rows.assign_Name (store_sound ok hs hl hx.at_ hx.nd hx.lt hx.kind r q)
theorem TGL.nil : TGL w k env ns [] [] Λ σ Λ σ := fun A s ρ us Q E hr hi hs hl r q => by
  obtain rfl := r.nil_eq
  exact wpAny_pure (q s.heap s.toks .refl hs hl)
theorem assignEach_cons {rest : List PySem.Expr} (h : notStar e = true) : assignEach (e :: rest) env = (false, assign e env) :: assignEach rest env := by
  cases e <;> first | rfl | (exact absurd h Bool.false_ne_true)
theorem TGL.cons (h₁ : TG w k env ns t v Λ σ Λ₁ σ₁) (h₂ : TGL w k env ns ts vs Λ₁ σ₁ Λ₂ σ₂) (hn : notStar t = true) : TGL w k env ns (t :: ts) (v :: vs) Λ σ Λ₂ σ₂ :=
  fun A s ρ us Q E hr hi hs hl r q => by
    obtain ⟨u, us, rfl, ru, rs⟩ := r.head
    rw [assignEach_cons hn]
    refine wpAny_bind (wpAny_holding (h₁ A s ρ u _ E hr hi hs hl ru fun h' tk g s₁ l₁ => ?_))
    exact h₂ A _ ρ us _ E hr (hi.growX hs hl g) s₁ l₁ (rs.growX g hl) fun h'' tk' g' s₂ l₂ => q h'' tk' (g.trans g' s₂.nodup l₁) s₂ l₂
theorem stars_each : ∀ {ts : List PySem.Expr}, noStars ts = true → (assignEach ts env).length = ts.length ∧ (assignEach ts env).findIdx? (·.1) = none
  | [], _ => ⟨rfl, rfl⟩
  | e :: ts, h => by
    have h' : notStar e = true ∧ noStars ts = true := by simpa [noStars] using h
    obtain ⟨a, b⟩ := stars_each h'.2
    rw [assignEach_cons h'.1]
    exact ⟨by simp [a], by rw [List.findIdx?_cons]; simp [b]⟩
theorem ext_all {h h' : Heap} (x : Heap.ExtBut h.objs.size h h') : ∀ b o, h.get? b = some o → h'.get? b = some o := fun b o e => x b o (Nat.ne_of_lt (Heap.lt_size e)) e
theorem TG.tup {kk : Nat} (h : TGL w k env ns ts vs Λ σ Λ₁ σ₁) (hn : ts.length = vs.length) (hs' : noStars ts = true) : TG w k env ns (.Tuple ts kk pos) (.tup vs) Λ σ Λ₁ σ₁ :=
  fun A s ρ u Q E hr hi hs hl r q => by
    cases r with
    | tup ht ha hlen hv =>
      obtain ⟨a, b⟩ := stars_each (env := env) hs'
      refine assign_Tuple_tuple hr.hh ht (by rw [a, hn]; simpa using hlen.symm) b fun h' hx => ?_
      have kp := ext_all hx
      have g : Grow s.heap ρ h' ρ := .keepAll kp
      refine h A _ ρ _ _ E hr (hi.grow hs g) (hs.keeps kp) (hl.grow g) (RepL.grow ⟨by simpa using hlen, by simpa using hv⟩ g) fun h₂ tk g₂ s₂ l₂ => q h₂ tk (g.toX.trans g₂ s₂.nodup (hl.grow g)) s₂ l₂
theorem E1.tup {kk : Nat} (h : EV w k env ns e Λ σ v σ₁) (ht : TG w k env ns (.Tuple ts kk p₂) v Λ σ₁ Λ₂ σ₂) (hs' : swapsWithSole [.Tuple ts kk p₂] e pos.line env = pure false) (hw : swappedStores [.Tuple ts kk p₂] e env = pure none) :
    E1 w k env ns (.Assign [.Tuple ts kk p₂] e pos) Λ σ (.next Λ₂ σ₂) :=
  fun A s ρ Q E hr hi hs hl q => Assign_Tuple (h A s ρ _ E hr hi hs hl fun u h₁ t₁ ρ₁ g₁ s₁ r₁ =>
    ht A _ ρ₁ u _ E hr (hi.grow hs g₁) s₁ (hl.grow g₁) r₁ fun h₂ t₂ g₂ s₂ l₂ => q _ h₂ t₂ ρ₁ (g₁.toX.trans g₂ s₂.nodup (hl.grow g₁)) ⟨s₂, l₂⟩) hs' hw

inductive Sets (env : Env) (ns : List Str) : List Str → List V → List (Option V) → List (Option V) → Prop where
  | nil (Λ : List (Option V)) : Sets env ns [] [] Λ Λ
  | cons (n : Str) (ms : List Str) (v : V) (vs : List V) (i : Nat) (Λ Λ₁ : List (Option V)) : Slot env ns Λ i n → Sets env ns ms vs (Λ.set i (some v)) Λ₁ → Sets env ns (n :: ms) (v :: vs) Λ Λ₁
theorem sets_sound {ms : List Str} {vs : List V} (ok : EnvOk env) (h : Sets env ns ms vs Λ Λ₁) {A : Around} {s : Shared} {ρ : List Addr} {us : List Value} {Q : Unit → Shared → Prop} {E : Value → Shared → Prop} (hi : Inv w s.heap) (hs : Sto w s.heap ρ σ)
    (hl : Loc s.heap ρ env ns Λ) (r : RepL s.heap ρ us vs) (q : ∀ h' tk, GrowX env s.heap ρ h' ρ → Sto w h' ρ σ → Loc h' ρ env ns Λ₁ → Q () { s with heap := h', toks := tk }) :
    wpAny (model pw w) A (assignInOrder (ms.map fun n => bindName env n) us) Q E s := by
  induction h generalizing s us with
  | nil Λ =>
    obtain rfl := r.nil_eq
    exact wpAny_pure (q s.heap s.toks .refl hs hl)
  | cons n ms v vs i Λ Λ₁ hx _ ih =>
    obtain ⟨u, us, rfl, ru, rs⟩ := r.head
    refine wpAny_bind (wpAny_holding (wpAny_bindName (store_sound ok hs hl hx.at_ hx.nd hx.lt hx.kind ru fun h' tk g s₁ l₁ => ?_)))
    exact ih (hi.growX hs hl g) s₁ l₁ (rs.growX g hl) fun h'' tk' g' s₂ l₂ => q h'' tk' (g.trans g' s₂.nodup l₁) s₂ l₂
theorem RepL.rev {h : Heap} {ρ : List Addr} {us : List Value} {vs : List V} (r : RepL h ρ us vs) : RepL h ρ us.reverse vs.reverse :=
  ⟨by simp [r.1], fun i u v e1 e2 => by
    obtain ⟨h1, _⟩ := List.getElem?_eq_some_iff.mp e1
    rw [List.getElem?_reverse (by simpa using h1)] at e1
    rw [List.getElem?_reverse (by rw [← r.1]; simpa using h1)] at e2
    exact r.2 _ u v e1 (by rw [r.1]; exact e2)⟩
theorem E1.swap {kk : Nat} {ms : List Str} (ok : EnvOk env) (h : EV w k env ns e Λ σ (.tup vs) σ₁) (ht : Sets env ns ms.reverse vs.reverse Λ Λ₂) (hn : ms.length = vs.length)
    (hs' : swapsWithSole [.Tuple ts kk p₂] e pos.line env = pure false) (hw : swappedStores [.Tuple ts kk p₂] e env = pure (some ms)) :
    E1 w k env ns (.Assign [.Tuple ts kk p₂] e pos) Λ σ (.next Λ₂ σ₁) :=
  fun A s ρ Q E hr hi hs hl q => Assign_Tuple_swapped (h A s ρ _ E hr hi hs hl fun u h₁ t₁ ρ₁ g₁ s₁ r₁ => by
    cases r₁ with
    | @tup a us _ ht' ha hlen hv =>
      have hsz : us.toArray.size = ms.length := by rw [hn]; simpa using hlen
      rw [← hsz]
      refine unpackItems_tuple hr.hh ht' fun h' hx => ?_
      have kp := ext_all hx
      have g : Grow h₁ ρ₁ h' ρ₁ := .keepAll kp
      have g' := g₁.trans g s₁.nodup
      exact sets_sound ok ht (hi.grow hs g') (s₁.keeps kp) (hl.grow g') (RepL.rev (RepL.grow ⟨by simpa using hlen, by simpa using hv⟩ g)) fun h₂ t₂ g₂ s₂ l₂ => q _ h₂ t₂ ρ₁ (g'.toX.trans g₂ s₂.nodup (hl.grow g')) ⟨s₂, l₂⟩) hs' hw

theorem E1.aug {n : Str} {i : Nat} {a b : Int} (ok : EnvOk env) (hx : Slot env ns Λ i n) (ha : Λ[i]? = some (some (.int a))) (h : EV w k env ns e Λ σ (.int b) σ₁) (hn : (n == ("__classdict__" : Str)) = false) :
    E1 w k env ns (.AugAssign (.Name n p₂) .Add e pos) Λ σ (.next (Λ.set i (some (.int (a + b)))) σ₁) := fun A s ρ Q E hr hi hs hl q => by
  obtain ⟨u, hu, r⟩ := hl.var i n _ hx.at_ ha
  refine wpAny_AugAssign_Name ?_
  have go : wpAny (model pw w) A (eval e env) (fun v s₂ => wpAny (model pw w) A (inplaceOp .Add u v) (fun r s₃ => wpAny (model pw w) A (storeName env n r) (fun _ => Q .next) E s₃) E s₂) E s :=
    h A s ρ _ E hr hi hs hl fun v h₁ t₁ ρ₁ g₁ s₁ r₁ => by
      have r' := r.grow g₁
      cases r'; cases r₁
      refine AutoIntOps.iadd_0 ?_
      exact store_sound ok s₁ (hl.grow g₁) hx.at_ hx.nd hx.lt hx.kind (.int _ _) fun h₂ t₂ g₂ s₂ l₂ => q _ h₂ t₂ ρ₁ (g₁.toX.trans g₂ s₂.nodup (hl.grow g₁)) ⟨s₂, l₂⟩
  rcases hu with ⟨hk, m, hm, hv⟩ | ⟨hk, c, hc, hcell⟩
  · exact wpAny_loadName_local ok.k hk hm hv go
  · rcases hk with hk | hk
    · exact wpAny_loadName_cell ok.k hk hc hcell go
    · exact wpAny_loadName_free ok.k hk hc hcell go hn
end
end Mine
namespace Mine

/-! ## iteration -/
noncomputable def quietIter (o : Obj) : Bool := match o.cls with
  | .type n => !(["enumerate", "zip", "dict_itemiterator", "dict_reverseitemiterator", "odict_iterator", "itertools.zip_longest", "itertools.pairwise"].contains n)
  | _ => false
theorem go_quiet {M : Model} {A : Around} {t : PySem.Expr} {I : Addr} {v : Value} {s : Shared} {o : Obj} {Q : Unit → Shared → Prop} {E : Value → Shared → Prop} (ho : s.heap.get? I = some o) (hq : quietIter o = true) (q : Q () s) :
    wpAny M A (letOwnedTupleGo t (.ref I) v) Q E s := by
  have key : ∀ a, wpAny M A (do
      let o ← load I
      match o.cls, o.data with
      | .type n, .fields vs =>
        if ["enumerate", "zip", "dict_itemiterator", "dict_reverseitemiterator", "odict_iterator", "itertools.zip_longest", "itertools.pairwise"].contains n && vs[0]? == some (rawInt a) then
          rule "for.unpacks-the-owned-tuple"
          updateField I 0 .none
      | _, _ => pure ()) Q E s := fun a => by
    refine wpAny_bind (wpAny_load ho ?_)
    split
    · rename_i n vs hc hd
      unfold quietIter at hq
      rw [hc] at hq
      simp only [Bool.not_eq_true'] at hq
      rw [hq]
      exact wpAny_pure q
    · exact wpAny_pure q
  unfold letOwnedTupleGo
  split
  · cases v <;> first | exact key _ | exact wpAny_pure q
  · cases v <;> first | exact key _ | exact wpAny_pure q
  · exact wpAny_pure q
structure Src (w : World) (h₀ h₁ : Heap) (ρ : List Addr) (I : Addr) (fp : List Addr) (P : Nat → Value → Prop) (St : Nat → Heap → Prop) (Vs : List V) (bd : Bool) : Prop where
  keep : ∀ b o, h₀.get? b = some o → h₁.get? b = some o
  fresh : h₀.get? I = none
  walks : ∀ A : Around, A.handled = none → Walks pw w A I fp [I] Vs.length P St
  start : St 0 h₁
  live : ∀ i h, St i h → ∃ o, h.get? I = some o ∧ solid o = false
  foot : ∀ b ∈ fp, b ≠ I → b ∉ ρ ∧ ∃ o, h₀.get? b = some o ∧ solid o = true
  item : ∀ i u v, P i u → Vs[i]? = some v → Rep h₀ ρ u v
  fin : bd = true → ∀ i u, P i u → i < Vs.length
  quiet : ∀ i h, St i h → ∃ o, h.get? I = some o ∧ quietIter o = true

noncomputable def IV (w : World) (k : Nat) (env : Env) (ns : List Str) (e : PySem.Expr) (Λ : List (Option V)) (σ : List Cell) (Vs : List V) (σ' : List Cell) (bd : Bool) : Prop :=
  ∀ (A : Around) (s : Shared) (ρ : List Addr) (Q : Value → Shared → Prop) (E : Value → Shared → Prop), Room A k → Inv w s.heap → Sto w s.heap ρ σ → Loc s.heap ρ env ns Λ →
    (∀ I h₁ tk ρ₁ h₀ fp P St, Grow s.heap ρ h₀ ρ₁ → Sto w h₀ ρ₁ σ' → Src w h₀ h₁ ρ₁ I fp P St Vs bd → Q (.ref I) { s with heap := h₁, toks := tk }) →
    wpAny (model pw w) A (eval e env) (fun x s₁ => wpAny (model pw w) A (pyIter x) Q E s₁) E s

section
variable {w : World} {k j : Nat} {env : Env} {ns : List Str} {Λ Λ₁ Λ₂ : List (Option V)} {σ σ₁ σ₂ : List Cell} {e e₂ t : PySem.Expr} {ts : List PySem.Expr} {v x y z : V} {Vs vs : List V} {pos p₂ : Pos} {o : Out} {body : List PySem.Stmt}

theorem IV.tup (h : EV w k env ns e Λ σ (.tup Vs) σ₁) : IV w k env ns e Λ σ Vs σ₁ true := fun A s ρ Q E hr hi hs hl q => h A s ρ _ E hr hi hs hl fun u h₁ t₁ ρ₁ g₁ s₁ r₁ => by
  cases r₁ with
  | @tup a us _ ht ha hlen hv =>
    refine wpAny_pyIter_tuple ht ?_
    obtain ⟨o, ho, hc, n, hd⟩ := ht
    have hne : a ≠ h₁.objs.size := Nat.ne_of_lt (Heap.lt_size ho)
    refine q _ _ _ ρ₁ h₁ [h₁.objs.size, a] (fun i v => us.toArray[i]? = some v) (fun i h => h.IsTupleIter h₁.objs.size a i ∧ h.IsTuple a us.toArray) g₁ s₁ ⟨push_keeps _, get?_size, fun A' hA => (by have := Walks.tuple (prog := pw) (w := w) hA h₁.objs.size a hne us.toArray; rwa [show us.toArray.size = Vs.length from by simpa using hlen] at this), ⟨⟨_, Heap.get?_push_size _ rfl, rfl, rfl⟩, o, push_keeps _ _ _ ho, hc, n, hd⟩,
      fun i h' st => by obtain ⟨⟨o', e', _, hd'⟩, _⟩ := st; exact ⟨o', e', by simp [solid, hd']⟩, fun b hb hbI => ?_, fun i u v hu hv' => hv i u v (by simpa using hu) hv', fun _ i u hu => by rw [← hlen]; simpa using (Array.getElem?_eq_some_iff.mp hu).1, fun i h' st => by obtain ⟨⟨o', e', hcl, _⟩, _⟩ := st; exact ⟨o', e', by unfold quietIter; rw [hcl]; decide⟩⟩
    rcases List.mem_cons.mp hb with rfl | hb
    · exact absurd rfl hbI
    · obtain rfl := List.mem_singleton.mp hb
      exact ⟨ha, o, ho, by simp [solid, hd]⟩
theorem IV.lst (h : EV w k env ns e Λ σ (.lst Vs) σ₁) : IV w k env ns e Λ σ Vs σ₁ true := fun A s ρ Q E hr hi hs hl q => h A s ρ _ E hr hi hs hl fun u h₁ t₁ ρ₁ g₁ s₁ r₁ => by
  cases r₁ with
  | @lst a us _ ht ha hlen hv =>
    refine wpAny_pyIter_list ht ?_
    obtain ⟨o, ho, hc, n, hd⟩ := ht
    have hne : a ≠ h₁.objs.size := Nat.ne_of_lt (Heap.lt_size ho)
    refine q _ _ _ ρ₁ h₁ [h₁.objs.size, a] (fun i v => us.toArray[i]? = some v) (fun i h => h.IsListIter h₁.objs.size a i ∧ h.IsList a us.toArray) g₁ s₁ ⟨push_keeps _, get?_size, fun A' hA => (by have := Walks.list (prog := pw) (w := w) hA h₁.objs.size a hne us.toArray; rwa [show us.toArray.size = Vs.length from by simpa using hlen] at this), ⟨⟨_, Heap.get?_push_size _ rfl, rfl, rfl⟩, o, push_keeps _ _ _ ho, hc, n, hd⟩,
      fun i h' st => by obtain ⟨⟨o', e', _, hd'⟩, _⟩ := st; exact ⟨o', e', by simp [solid, hd']⟩, fun b hb hbI => ?_, fun i u v hu hv' => hv i u v (by simpa using hu) hv', fun _ i u hu => by rw [← hlen]; simpa using (Array.getElem?_eq_some_iff.mp hu).1, fun i h' st => by obtain ⟨⟨o', e', hcl, _⟩, _⟩ := st; exact ⟨o', e', by unfold quietIter; rw [hcl]; decide⟩⟩
    rcases List.mem_cons.mp hb with rfl | hb
    · exact absurd rfl hbI
    · obtain rfl := List.mem_singleton.mp hb
      exact ⟨ha, o, ho, by simp [solid, hd]⟩
theorem IV.str {l : List Nat} (h : EV w k env ns e Λ σ (.str l) σ₁) : IV w k env ns e Λ σ (l.map fun c => .str [c]) σ₁ true := fun A s ρ Q E hr hi hs hl q => h A s ρ _ E hr hi hs hl fun u h₁ t₁ ρ₁ g₁ s₁ r₁ => by
  cases r₁ with
  | str _ t =>
    have it : ∀ (i : Nat) (u : Value) (v : V), SignAt ⟨l.toArray⟩ i u → (l.map fun c => V.str [c])[i]? = some v → Rep h₁ ρ₁ u v := fun i u v hu hv => by
      obtain ⟨c, tk, ec, rfl⟩ := hu
      have : l[i]? = some c := by simpa using ec
      rw [List.getElem?_map, this] at hv
      obtain rfl := Option.some.inj hv
      exact .str [c] tk
    cases ha : (l.toArray).all (· < 128)
    · refine wpAny_pyIter_wide ha ?_
      exact q _ _ _ ρ₁ h₁ [h₁.objs.size] (SignAt ⟨l.toArray⟩) (fun i h => h.IsStrIter h₁.objs.size "str_iterator" ⟨l.toArray⟩ t i) g₁ s₁ ⟨push_keeps _, get?_size, fun A' hA => by simpa using Walks.strWide (prog := pw) (w := w) hA h₁.objs.size ⟨l.toArray⟩ t, ⟨_, Heap.get?_push_size _ rfl, rfl, rfl⟩,
        fun i h' st => by obtain ⟨o', e', _, hd'⟩ := st; exact ⟨o', e', by simp [solid, hd']⟩, fun b hb hbI => absurd (List.mem_singleton.mp hb) hbI, it, fun _ i u hu => by obtain ⟨c, tk, ec, _⟩ := hu; simpa using (Array.getElem?_eq_some_iff.mp ec).1, fun i h' st => by obtain ⟨o', e', hcl, _⟩ := st; exact ⟨o', e', by unfold quietIter; rw [hcl]; decide⟩⟩
    · refine wpAny_pyIter_ascii ha ?_
      exact q _ _ _ ρ₁ h₁ [h₁.objs.size] (SignAt ⟨l.toArray⟩) (fun i h => h.IsStrIter h₁.objs.size "str_ascii_iterator" ⟨l.toArray⟩ t i) g₁ s₁ ⟨push_keeps _, get?_size, fun A' hA => by simpa using Walks.strAscii (prog := pw) (w := w) hA h₁.objs.size ⟨l.toArray⟩ t, ⟨_, Heap.get?_push_size _ rfl, rfl, rfl⟩,
        fun i h' st => by obtain ⟨o', e', _, hd'⟩ := st; exact ⟨o', e', by simp [solid, hd']⟩, fun b hb hbI => absurd (List.mem_singleton.mp hb) hbI, it, fun _ i u hu => by obtain ⟨c, tk, ec, _⟩ := hu; simpa using (Array.getElem?_eq_some_iff.mp ec).1, fun i h' st => by obtain ⟨o', e', hcl, _⟩ := st; exact ⟨o', e', by unfold quietIter; rw [hcl]; decide⟩⟩
theorem IV.range {n : Str} {es : List PySem.Expr} {a b : Int} (ok : EnvOk env) (hx : env.kindOf n = some .globalImplicit) (hd : (n == ("__debug__" : Str)) = false) (hg : BiIs w n (.type "range")) (hs' : noStars es = true)
    (ha : EL w k env ns es Λ σ [.int a, .int b] σ₁) (h1 : -(2 ^ 62) ≤ a) (h2 : a < 2 ^ 62) (h3 : -(2 ^ 62) ≤ b) (h4 : b < 2 ^ 62) :
    IV w k env ns (.Call (.Name n p₂) es [] pos) Λ σ ((List.range (b - a).toNat).map fun (i : Nat) => V.int (a + i)) σ₁ false :=
  fun A s ρ Q E hr hi hs hl q => Call_Name rfl (Name_function_global ok.k hx (loadGlobal_builtin (by rw [ok.g]; exact hi.gl) hg.1 (by rw [ok.b]; exact hi.bl) hg.2 (by
    refine PyProof.Rows.callWith_type (trees_plain hs' pos) (evalArgs_es hs' (ha A s ρ pos _ E hr hi hs hl fun xs h₁ t₁ ρ₁ g₁ s₁ r₁ => ?_))
    obtain ⟨u, v, rfl, ru, rv⟩ := r₁.two
    cases ru; cases rv
    refine call_range_2 (wpAny_pyIter_range (IsRange.new ..) (small_one h1 h2 h3 h4) ?_)
    have hsz : Builtin.Range.rangeSize a b 1 = ((b - a).toNat : Int) := by rw [rangeSize_one]; split <;> lia
    rename_i ta tb
    generalize hr0 : ({ cls := .type "range", data := .fields #[.int a ta, .int b tb, .int 1 t₁] } : Obj) = ro
    have kp := push_keeps (h := h₁) ro
    refine q _ _ _ ρ₁ (h₁.push ro) [(h₁.push ro).objs.size] (fun i v => ∃ t, v = .int (a + i * 1) t) (fun i h => IsRangeIter h (h₁.push ro).objs.size (a + (i : Nat) * 1) (((b - a).toNat : Int) - (i : Nat)) 1) (g₁.trans (.keepAll kp) s₁.nodup) (s₁.keeps kp)
      ⟨push_keeps _, get?_size, fun A' hA => by simpa using Walks.range (prog := pw) (w := w) hA (h₁.push ro).objs.size a 1 (b - a).toNat, ?_, fun i h' st => ⟨_, st, rfl⟩, fun b hb hbI => absurd (List.mem_singleton.mp hb) hbI, fun i u v hu hv => ?_, (fun h => by cases h), fun i h' st => ⟨_, st, by rfl⟩⟩
    · have e1 : (a + ((0 : Nat) : Int) * 1) = a := by simp
      have e2 : (((b - a).toNat : Int) - ((0 : Nat) : Int)) = Builtin.Range.rangeSize a b 1 := by rw [hsz]; simp
      rw [e1, e2]
      exact Heap.get?_push_size _ rfl
    · obtain ⟨tk, rfl⟩ := hu
      rw [List.getElem?_map] at hv
      cases q : (List.range (b - a).toNat)[i]? with
      | none => rw [q] at hv; simp at hv
      | some j =>
        rw [q] at hv
        obtain ⟨hlt, e⟩ := List.getElem?_eq_some_iff.mp q
        simp at e; subst e
        obtain rfl := Option.some.inj hv
        simpa using Rep.int (h := h₁.push ro) (ρ := ρ₁) (a + (i : Int)) tk)) hd)

structure At (I : Addr) (h h' : Heap) (env : Env) (ρ : List Addr) : Prop where
  keep : ∀ b o, b ≠ I → h.get? b = some o → h'.get? b = some o
  off : I ∉ ρ
  offX : ¬ InX env I
  soft : ∃ o, h.get? I = some o ∧ solid o = false
theorem Rep.at {h h' : Heap} {I : Addr} {ρ : List Addr} {u : Value} (r : Rep h ρ u v) (a : At I h h' env ρ) : Rep h' ρ u v :=
  r.keep (fun b o hb hs e => ⟨a.keep b o (fun hI => by
    obtain ⟨o', e', hs'⟩ := a.soft
    rw [hI] at e; rw [e] at e'; cases e'; rw [hs] at hs'; cases hs') e, hb⟩) fun _ _ e => e
theorem FldsAre.at {h h' : Heap} {I : Addr} {ρ : List Addr} (a : At I h h' env ρ) : ∀ {es : List DictEntry} {fs : List (Str × V)}, FldsAre h ρ es fs → FldsAre h' ρ es fs
  | [], [], _ => trivial
  | _ :: _, _ :: _, ⟨x, b, c⟩ => ⟨x, b.at a, c.at a⟩
  | [], _ :: _, x => x
  | _ :: _, [], x => x
theorem Sto.at {h h' : Heap} {I : Addr} {ρ : List Addr} (s : Sto w h ρ σ) (a : At I h h' env ρ) : Sto w h' ρ σ := ⟨s.len, s.nodup, fun i b c e1 e2 => by
  have k : ∀ o, h.get? b = some o → h'.get? b = some o := fun o e => a.keep b o (fun hI => a.off (hI ▸ List.mem_of_getElem? e1)) e
  have := s.cell i b c e1 e2
  cases c with
  | list Vs => obtain ⟨vs, p, r⟩ := this; exact ⟨vs, p.at fun o e => k o e, r.1, fun i v x e1 e2 => (r.2 i v x e1 e2).at a⟩
  | arr Vs => obtain ⟨vs, p, r⟩ := this; exact ⟨vs, isList_at p k, r.1, fun i v x e1 e2 => (r.2 i v x e1 e2).at a⟩
  | flds fs => obtain ⟨es, n, e, r, q⟩ := this; exact ⟨es, n, k _ e, r.at a, q⟩
  | tab => obtain ⟨f, ⟨o, es, ep, e, q⟩, r⟩ := this; exact ⟨f, ⟨o, es, ep, k _ e, q⟩, r⟩, s.new⟩
theorem Loc.at {h h' : Heap} {I : Addr} {ρ : List Addr} (l : Loc h ρ env ns Λ) (a : At I h h' env ρ) : Loc h' ρ env ns Λ := by
  have k : ∀ b o, InX env b → h.get? b = some o → h'.get? b = some o := fun b o hb e => a.keep b o (fun hI => a.offX (hI ▸ hb)) e
  have kn : ∀ m, h.Ns env.locals m → h'.Ns env.locals m := fun m ⟨o, es, ep, e, r⟩ => ⟨o, es, ep, k _ _ (.inl rfl) e, r⟩
  obtain ⟨m0, hm0⟩ := l.has
  refine ⟨⟨m0, kn _ hm0⟩, l.off, l.new, fun x c e => ?_, fun i x v e1 e2 => ?_⟩
  · obtain ⟨p, b, c', u, o, ho, hd⟩ := l.offc x c e
    exact ⟨p, b, c', u, o, k _ _ (.inr ⟨x, e⟩) ho, hd⟩
  · obtain ⟨u, hu, r⟩ := l.var i x v e1 e2
    refine ⟨u, ?_, r.at a⟩
    rcases hu with ⟨hk, m, hm, hv⟩ | ⟨hk, c, hc, o, ho, hd⟩
    · exact .inl ⟨hk, m, kn _ hm, hv⟩
    · exact .inr ⟨hk, c, hc, o, k _ _ (.inr ⟨x, hc⟩) ho, hd⟩

inductive ForIs (w : World) (k : Nat) (env : Env) (ns : List Str) (t : PySem.Expr) (body : List PySem.Stmt) : List V → List (Option V) → List Cell → Out → Prop where
  | nil (Λ : List (Option V)) (σ : List Cell) : ForIs w k env ns t body [] Λ σ (.next Λ σ)
  | turn (v : V) (vs : List V) (Λ Λ₁ Λ₂ : List (Option V)) (σ σ₁ : List Cell) (o : Out) : TG w k env ns t v Λ σ Λ₁ σ → EX w k env ns body Λ₁ σ (.next Λ₂ σ₁) → ForIs w k env ns t body vs Λ₂ σ₁ o → ForIs w k env ns t body (v :: vs) Λ σ o
  | ret (v : V) (vs : List V) (Λ Λ₁ : List (Option V)) (σ σ₁ : List Cell) (u : V) : TG w k env ns t v Λ σ Λ₁ σ → EX w k env ns body Λ₁ σ (.ret u σ₁) → ForIs w k env ns t body (v :: vs) Λ σ (.ret u σ₁)
theorem for_sound (h : ForIs w k env ns t body Vs Λ σ o) {A : Around} {s : Shared} {h₀ : Heap} {ρ : List Addr} {I : Addr} {fp : List Addr} {P : Nat → Value → Prop} {St : Nat → Heap → Prop} {R : Result → Shared → Prop} (hr : Room A k) (hi : Inv w h₀) (hs : Sto w h₀ ρ σ)
    (hl : Loc h₀ ρ env ns Λ) {bd : Bool} (src : Src w h₀ s.heap ρ I fp P St Vs bd)
    (q : ∀ fl h' tk ρ', GrowX env h₀ ρ h' ρ' → OutOk w env ns h' ρ' fl o → R (.ok fl) { s with heap := h', toks := tk }) : codeAny (model pw w) A (.forLoop t (.ref I) body [] env) R s := by
  have hIX : ¬ InX env I := fun hx => by obtain ⟨o, e, _⟩ := hl.live hx; rw [src.fresh] at e; cases e
  have hIρ : I ∉ ρ := fun hm => by obtain ⟨o, e⟩ := hs.live hm; rw [src.fresh] at e; cases e
  have W := src.walks A hr.hh
  refine codeAny_forLoop_any (fun n s' => ∃ i Λ' σ' h' tk ρ', s' = { s with heap := h', toks := tk } ∧ n = Vs.length - i ∧ i ≤ Vs.length ∧ ForIs w k env ns t body (Vs.drop i) Λ' σ' o ∧ Inv w h' ∧ Sto w h' ρ' σ' ∧ Loc h' ρ' env ns Λ' ∧ GrowX env h₀ ρ h' ρ' ∧ St i h' ∧ I ∉ ρ') ?_ Vs.length ?_
  · rintro n s' ⟨i, Λ', σ', h', tk, ρ', rfl, rfl, hle, hF, hi', hs', hl', g', st', hI'⟩
    have mk : ∀ h'' : Heap, (∀ b o, b ∉ [I] → h'.get? b = some o → h''.get? b = some o) → At I h' h'' env ρ' ∧ GrowX env h₀ ρ h'' ρ' ∧ Inv w h'' := fun h'' hk => by
      have a : At I h' h'' env ρ' := ⟨fun b o hb e => hk b o (by simpa using hb) e, hI', hIX, src.live i h' st'⟩
      refine ⟨a, ⟨fun b o hb hx e => a.keep b o (fun hI => by rw [hI] at e; rw [src.fresh] at e; cases e) (g'.keep b o hb hx e), g'.pre⟩, fun b o e => a.keep b o (fun hI => ?_) (hi' b o e)⟩
      have := hi b o e
      rw [hI, src.fresh] at this; cases this
    by_cases hlt : i < Vs.length
    · refine W.item i _ _ _ hlt st' fun u h'' tk' hP st'' hk => ?_
      obtain ⟨oq, hoq, hqq⟩ := src.quiet _ _ st''
      refine go_quiet (s := { s with heap := h'', toks := tk' }) hoq hqq ?_
      obtain ⟨a, g'', i''⟩ := mk h'' hk
      have hd : Vs.drop i = Vs[i] :: Vs.drop (i + 1) := List.drop_eq_getElem_cons hlt
      rw [hd] at hF
      have ru : Rep h'' ρ' u Vs[i] := (src.item i u _ hP (by rw [List.getElem?_eq_getElem hlt])).growX g'' hl
      have frame : ∀ (h₃ : Heap) (ρ₃ : List Addr), GrowX env h'' ρ' h₃ ρ₃ → Loc h'' ρ' env ns Λ' → Sto w h'' ρ' σ' → St (i + 1) h₃ ∧ I ∉ ρ₃ := fun h₃ ρ₃ g₃ _ _ => by
        obtain ⟨oI, eI, _⟩ := src.live _ _ st''
        have hk₃ : ∀ b ∈ fp, ∀ o, h''.get? b = some o → h₃.get? b = some o := fun b hb o e => by
          by_cases hbI : b = I
          · subst hbI; exact g₃.keep b o hI' hIX e
          · obtain ⟨hbρ, o', e', hs'⟩ := src.foot b hb hbI
            have hbX : ¬ InX env b := fun hx => by
              obtain ⟨o₂, e₂, hs₂⟩ := hl.live hx
              rw [e'] at e₂; cases e₂; rw [hs'] at hs₂; cases hs₂
            exact g₃.keep b o (g''.off e' hbρ) hbX e
        exact ⟨W.frame _ _ _ st'' hk₃, g₃.off eI hI'⟩
      cases hF with
      | turn _ _ _ Λ₁ Λ₂ _ σ₁ _ hT hB hF' =>
        refine hT A { s with heap := h'', toks := tk' } ρ' u _ _ hr i'' (hs'.at a) (hl'.at a) ru fun h₃ tk₃ g₃ s₃ l₃ => ?_
        refine hB A _ ρ' _ _ hr (i''.growX (hs'.at a) (hl'.at a) g₃) s₃ l₃ fun fl h₄ tk₄ ρ₄ g₄ o₄ => ?_
        obtain ⟨rfl, s₄, l₄⟩ := o₄.next
        have g := g₃.trans g₄ s₄.nodup l₃
        obtain ⟨st₄, hI₄⟩ := frame h₄ ρ₄ g (hl'.at a) (hs'.at a)
        exact ⟨Vs.length - (i + 1), by omega, i + 1, Λ₂, σ₁, h₄, tk₄, ρ₄, rfl, rfl, hlt, hF', i''.growX (hs'.at a) (hl'.at a) g, s₄, l₄, g''.trans g s₄.nodup (hl'.at a), st₄, hI₄⟩
      | ret _ _ _ Λ₁ _ σ₁ v hT hB =>
        refine hT A { s with heap := h'', toks := tk' } ρ' u _ _ hr i'' (hs'.at a) (hl'.at a) ru fun h₃ tk₃ g₃ s₃ l₃ => ?_
        refine hB A _ ρ' _ _ hr (i''.growX (hs'.at a) (hl'.at a) g₃) s₃ l₃ fun fl h₄ tk₄ ρ₄ g₄ o₄ => ?_
        obtain ⟨u, rfl, _⟩ := id o₄.ret
        exact q _ h₄ tk₄ ρ₄ (g''.trans (g₃.trans g₄ o₄.nodup l₃) o₄.nodup (hl'.at a)) o₄
    · obtain rfl : i = Vs.length := by lia
      refine W.done _ _ _ st' fun h'' tk' hk => ?_
      obtain ⟨a, g'', i''⟩ := mk h'' hk
      rw [List.drop_length] at hF
      cases hF with
      | nil => exact wpAny_execs_nil (q .next h'' tk' ρ' g'' ⟨hs'.at a, hl'.at a⟩)
  · have kp := src.keep
    refine ⟨0, Λ, σ, s.heap, s.toks, ρ, rfl, by simp, by simp, by simpa using h, fun b o e => kp b o (hi b o e), hs.keeps kp, hl.grow (.keepAll kp), (Grow.keepAll kp).toX, src.start, hIρ⟩
theorem E1.for {iter : PySem.Expr} {bd : Bool} (hI : IV w k env ns iter Λ σ Vs σ₁ bd) (h : ForIs w k env ns t body Vs Λ σ₁ o) (hf : ∀ x, foldedSetIterable iter env x = pure x) :
    E1 w k env ns (.For t iter body [] pos) Λ σ o :=
  fun A s ρ Q E hr hi hs hl q => wpAny_For (hI A s ρ _ E hr hi hs hl fun I h₁ t₁ ρ₁ h₀ fp P St g₁ s₁ src => for_sound (A := A.mark none) h ⟨hr.hh, hr.hd, hr.hu⟩ (hi.grow hs g₁) s₁ (hl.grow g₁) src
    fun fl h₂ t₂ ρ₂ g₂ o₂ => q fl h₂ t₂ ρ₂ (g₁.toX.trans g₂ o₂.nodup (hl.grow g₁)) o₂) hf
end
end Mine
namespace Mine

/-! ## items -/
noncomputable def escTab : List (List Nat × List Nat) := [([34], [34]), ([92], [92]), ([47], [47]), ([98], [8]), ([102], [12]), ([110], [10]), ([114], [13]), ([116], [9])]
noncomputable def showTab : List (List Nat × List Nat) := [([34], [92, 34]), ([92], [92, 92]), ([8], [92, 98]), ([12], [92, 102]), ([10], [92, 110]), ([13], [92, 114]), ([9], [92, 116])]
noncomputable def dicTab : Value → Option (List (List Nat × List Nat))
  | .ref a => if a = 168 then some escTab else if a = 366 then some showTab else none
  | _ => none
noncomputable def itemV (σ : List Cell) : V → V → Option V
  | .str l, .int i => if 0 ≤ i ∧ l.length ≤ 1000 then (l[i.toNat]?).map fun c => .str [c] else none
  | .tup l, .int i => if 0 ≤ i ∧ l.length ≤ 1000 then l[i.toNat]? else none
  | .lst l, .int i => if 0 ≤ i ∧ l.length ≤ 1000 then l[i.toNat]? else none
  | .ref c, .int i => match σ[c]? with
    | some (.list l) => if 0 ≤ i ∧ l.length ≤ 1000 then l[i.toNat]? else none
    | some (.arr l) => if 0 ≤ i ∧ l.length ≤ 1000 then l[i.toNat]? else none
    | some .tab => (shortTab.lookup i).map .str
    | _ => none
  | .g d, .str k => match dicTab d with
    | some tb => (tb.lookup k).map .str
    | none => none
  | _, _ => none
noncomputable def notSlice : PySem.Expr → Bool
  | .Slice .. => false
  | _ => true

noncomputable def entriesAre (P : Params) : List DictEntry → List (List Nat × List Nat) → Prop
  | [], [] => True
  | e :: es, f :: fs => e.hash = PyData.keyHash P ⟨f.1.toArray⟩ ∧ (∃ t, e.key = .str ⟨f.1.toArray⟩ t) ∧ (∃ t, e.val = .str ⟨f.2.toArray⟩ t) ∧ entriesAre P es fs
  | _, _ => False
theorem entries_find {P : Params} : ∀ {es : List DictEntry} {fs : List (List Nat × List Nat)}, entriesAre P es fs → ∀ k : Str,
    (match fs.lookup k.cps.toList with | some x => ∃ t, findBy Value.isStrOf es.toArray k = some (.str ⟨x.toArray⟩ t) | none => findBy Value.isStrOf es.toArray k = none)
  | [], [], _, k => by simp [findBy]
  | e :: es, f :: fs, ⟨_, ⟨t, hk⟩, ⟨u, hv⟩, hr⟩, k => by
    have ih := entries_find hr k
    rw [List.lookup_cons]
    by_cases q : k.cps.toList = f.1
    · have : (k.cps.toList == f.1) = true := by simpa using q
      rw [this]
      refine ⟨u, ?_⟩
      have hs : Value.isStrOf k e.key = true := by
        rw [hk]
        have : k = ⟨f.1.toArray⟩ := by cases k; simp at q; simp [← q]
        simp [Value.isStrOf, this]
      simp [findBy, hs, hv]
    · have : (k.cps.toList == f.1) = false := by simpa using q
      rw [this]
      have hs : Value.isStrOf k e.key = false := by
        rw [hk]
        have : ¬ k = ⟨f.1.toArray⟩ := fun e => q (by rw [e])
        simp [Value.isStrOf]
        intro e; first | exact this e.symm | exact this e
      have e' : findBy Value.isStrOf (e :: es).toArray k = findBy Value.isStrOf es.toArray k := by simp [findBy, hs]
      simp only [e']
      exact ih
  | [], _ :: _, x, _ => x.elim
  | _ :: _, [], x, _ => x.elim
noncomputable def es168 (P : Params) : List DictEntry := [E P "\"" 437 (S "\"" 438), E P "\\" 439 (S "\\" 440), E P "/" 441 (S "/" 442), E P "b" 443 (S "\x08" 444), E P "f" 445 (S "\x0c" 446), E P "n" 447 (S "\n" 448), E P "r" 449 (S "\x0d" 450), E P "t" 451 (S "\t" 452)]
theorem H1_168 (w : World) : (H1 w.params).get? 168 = some (Dc (.type "dict") (es168 w.params) 8) := by kernel_rfl
noncomputable def es366 (P : Params) : List DictEntry := [E P "\"" 759 (S "\\\"" 760), E P "\\" 761 (S "\\\\" 762), E P "\x08" 763 (S "\\b" 764), E P "\x0c" 765 (S "\\f" 766), E P "\n" 767 (S "\\n" 768), E P "\x0d" 769 (S "\\r" 770), E P "\t" 771 (S "\\t" 772)]
theorem H1_366 (w : World) : (H1 w.params).get? 366 = some (Dc (.type "dict") (es366 w.params) 7) := by kernel_rfl
theorem dic_map {w : World} {h : Heap} (i : Inv w h) {d : Value} {tb : List (List Nat × List Nat)} (e : dicTab d = some tb) : ∃ a f, d = .ref a ∧ (a == sysModules) = false ∧ h.MapOf (strKind pw w) a f ∧
    ∀ k : Str, match tb.lookup k.cps.toList with | some x => ∃ t, f k = some (.str ⟨x.toArray⟩ t) | none => f k = none := by
  have mk : ∀ (a : Addr) (es : List DictEntry) (n : Nat), (H1 w.params).get? a = some (Dc (.type "dict") es n) → entriesAre w.params es tb → h.MapOf (strKind pw w) a (fun k => findBy Value.isStrOf es.toArray k) := fun a es n e he => by
    refine ⟨_, es.toArray, n, i _ _ e, ⟨rfl, rfl, rfl⟩, rfl, fun x hx => ?_, fun _ => rfl⟩
    have hm : x ∈ es := by simpa using hx
    clear e hx
    have go : ∀ {es : List DictEntry} {fs : List (List Nat × List Nat)}, entriesAre w.params es fs → ∀ x ∈ es, ∃ k, (strKind pw w).is k x.key = true ∧ x.hash = PyData.keyHash w.params k := by
      intro es
      induction es with
      | nil => intro fs _ x hx; cases hx
      | cons e es ih =>
        intro fs he x hx
        cases fs with
        | nil => exact he.elim
        | cons f fs =>
          obtain ⟨h1, ⟨t, h2⟩, _, hr⟩ := he
          cases hx with
          | head => exact ⟨⟨f.1.toArray⟩, by rw [h2]; exact strKind_is pw w _ t, h1⟩
          | tail _ hx => exact ih hr x hx
    exact go he x hm
  cases d <;> first | (exact no_some e) | (unfold dicTab at e; dsimp only at e)
  rename_i a
  split at e
  · rename_i ha; subst ha
    obtain rfl := Option.some.inj e
    have he : entriesAre w.params (es168 w.params) escTab := ⟨rfl, ⟨437, rfl⟩, ⟨438, rfl⟩, rfl, ⟨439, rfl⟩, ⟨440, rfl⟩, rfl, ⟨441, rfl⟩, ⟨442, rfl⟩, rfl, ⟨443, rfl⟩, ⟨444, rfl⟩, rfl, ⟨445, rfl⟩, ⟨446, rfl⟩, rfl, ⟨447, rfl⟩, ⟨448, rfl⟩, rfl, ⟨449, rfl⟩, ⟨450, rfl⟩, rfl, ⟨451, rfl⟩, ⟨452, rfl⟩, trivial⟩
    exact ⟨168, _, rfl, by decide, mk 168 _ 8 (H1_168 w) he, fun k => entries_find he k⟩
  · split at e
    · rename_i ha; subst ha
      obtain rfl := Option.some.inj e
      have he : entriesAre w.params (es366 w.params) showTab := ⟨rfl, ⟨759, rfl⟩, ⟨760, rfl⟩, rfl, ⟨761, rfl⟩, ⟨762, rfl⟩, rfl, ⟨763, rfl⟩, ⟨764, rfl⟩, rfl, ⟨765, rfl⟩, ⟨766, rfl⟩, rfl, ⟨767, rfl⟩, ⟨768, rfl⟩, rfl, ⟨769, rfl⟩, ⟨770, rfl⟩, rfl, ⟨771, rfl⟩, ⟨772, rfl⟩, trivial⟩
      exact ⟨366, _, rfl, by decide, mk 366 _ 7 (H1_366 w) he, fun k => entries_find he k⟩
    · cases e

theorem seqIdx {i : Int} {n : Nat} (h0 : 0 ≤ i) (h1 : i.toNat < n) : seqIndex? i n = some i.toNat := by
  have h2 : ¬ i < 0 := by lia
  have h3 : i < (n : Int) := by lia
  simp [seqIndex?, h2, h0, h3]
section
variable {w : World} {k : Nat} {env : Env} {ns : List Str} {Λ : List (Option V)} {σ σ₁ σ₂ : List Cell} {e a b : PySem.Expr} {v x y z : V} {vs : List V} {pos p₂ : Pos}

theorem item_sound {A : Around} {s : Shared} {ρ : List Addr} {u u' : Value} {Q : Value → Shared → Prop} {E : Value → Shared → Prop} (e : itemV σ x y = some z) (hi : Inv w s.heap) (hs : Sto w s.heap ρ σ) (ru : Rep s.heap ρ u x) (rv : Rep s.heap ρ u' y)
    (q : ∀ t tk, Rep s.heap ρ t z → Q t { s with toks := tk }) : ItemOn (model pw w) A E u u' Q s := by
  cases ru with
  | str l t =>
    cases rv <;> first | (exact no_some e) | skip
    rename_i i ti
    unfold itemV at e
    dsimp only at e
    split at e
    · rename_i hb
      cases hc : l[i.toNat]? with
      | none => rw [hc] at e; simp at e
      | some c =>
        rw [hc] at e
        obtain rfl := Option.some.inj e
        have hlt : i.toNat < l.length := (List.getElem?_eq_some_iff.mp hc).1
        have hle := hb.2
        have hch : Txt.charAt ⟨l.toArray⟩ i = some c := by
          unfold Txt.charAt
          rw [show (⟨l.toArray⟩ : Str).length = l.length from by show l.toArray.size = _; simp, seqIdx hb.1 hlt]
          simpa using hc
        refine ⟨"str", _, F.slot_str_getitem.lookup, typeIs_str _ _ _, SB.getItem (by unfold fitsSsize; simp; lia) (by rw [hch]; rfl) ?_⟩
        have : Txt.item ⟨l.toArray⟩ i = ⟨#[c]⟩ := by unfold Txt.item; rw [hch]; rfl
        rw [this]
        exact q _ _ (.str [c] _)
    · cases e
  | @tup a us Vs ht ha hl hv =>
    cases rv <;> first | (exact no_some e) | skip
    rename_i i ti
    unfold itemV at e
    dsimp only at e
    split at e
    · rename_i hb
      obtain ⟨hlt, _⟩ := List.getElem?_eq_some_iff.mp e
      have hlt' : i.toNat < us.length := by rw [hl]; exact hlt
      refine ⟨"tuple", _, slot_tuple_getitem.lookup, ht.typeIs, getItem_tuple (j := i.toNat) (x := us[i.toNat]) ht (by lia) (by lia) (by rw [show us.toArray.size = us.length from by simp]; exact seqIdx hb.1 hlt') (by simp [hlt']) (q _ s.toks ?_)⟩
      exact hv i.toNat _ _ (by simp [hlt']) e
    · cases e
  | @lst a us Vs ht ha hl hv =>
    cases rv <;> first | (exact no_some e) | skip
    rename_i i ti
    unfold itemV at e
    dsimp only at e
    split at e
    · rename_i hb
      obtain ⟨hlt, _⟩ := List.getElem?_eq_some_iff.mp e
      have hlt' : i.toNat < us.length := by rw [hl]; exact hlt
      refine ⟨"list", _, slot_list_getitem.lookup, ht.typeIs, wpAny_getItem_list (x := us[i.toNat]) ht hb.1 (by lia) (by simp [hlt']) (q _ s.toks ?_)⟩
      exact hv i.toNat _ _ (by simp [hlt']) e
    · cases e
  | @ref c a ea =>
    cases rv <;> first | (exact no_some e) | skip
    rename_i i ti
    unfold itemV at e
    dsimp only at e
    split at e
    · rename_i l hc
      split at e
      · rename_i hb
        obtain ⟨us, hp, hl, hv⟩ := hs.cell c a _ ea hc
        obtain ⟨hlt, _⟩ := List.getElem?_eq_some_iff.mp e
        have hlt' : i.toNat < us.length := by rw [hl]; exact hlt
        have ht : s.heap.IsList a us.toArray := hp.isList
        refine ⟨"list", _, slot_list_getitem.lookup, ht.typeIs, wpAny_getItem_list (x := us[i.toNat]) ht hb.1 (by lia) (by simp [hlt']) (q _ s.toks ?_)⟩
        exact hv i.toNat _ _ (by simp [hlt']) e
      · cases e
    · rename_i l hc
      split at e
      · rename_i hb
        obtain ⟨us, hp, hl, hv⟩ := hs.cell c a _ ea hc
        obtain ⟨hlt, _⟩ := List.getElem?_eq_some_iff.mp e
        have hlt' : i.toNat < us.length := by rw [hl]; exact hlt
        have ht : s.heap.IsList a us.toArray := hp
        refine ⟨"list", _, slot_list_getitem.lookup, ht.typeIs, wpAny_getItem_list (x := us[i.toNat]) ht hb.1 (by lia) (by simp [hlt']) (q _ s.toks ?_)⟩
        exact hv i.toNat _ _ (by simp [hlt']) e
      · cases e
    · rename_i hc
      obtain ⟨f, hm, hf⟩ := hs.cell c a _ ea hc
      have := hf i
      cases hk : shortTab.lookup i with
      | none => rw [hk] at e; cases e
      | some xs =>
        rw [hk] at e this
        obtain rfl := Option.some.inj e
        obtain ⟨t, ht⟩ := this
        exact ⟨"dict", _, slot_dict_getitem.lookup, hm.typeIs, wpAny_getItem_of (intKind_is pw w i ti) hm ht (q _ _ (.str xs t))⟩
    · cases e
  | g d =>
    cases rv <;> first | (exact no_some e) | skip
    rename_i kk tk
    unfold itemV at e
    dsimp only at e
    split at e
    · rename_i tb htb
      obtain ⟨a, f, rfl, hsy, hm, hf⟩ := dic_map hi htb
      have := hf ⟨kk.toArray⟩
      simp only [] at this
      cases hk : tb.lookup kk with
      | none => rw [hk] at e; cases e
      | some xs =>
        rw [hk] at e
        rw [hk] at this
        obtain rfl := Option.some.inj e
        obtain ⟨t, ht⟩ := this
        exact ⟨"dict", _, slot_dict_getitem.lookup, hm.typeIs, wpAny_getItem_of (strKind_is pw w _ tk) hm ht (q _ _ (.str xs t))⟩
    · cases e
  | none => exact no_some e
  | bool _ => exact no_some e
  | int _ _ => exact no_some e
  | obj _ _ _ => exact no_some e

theorem sub_plain {A : Around} {s : Shared} {value slice : PySem.Expr} {Q : Value → Shared → Prop} {E : Value → Shared → Prop} (hn : notSlice slice = true)
    (h : wpAny (model pw w) A (eval value env) (fun o s₁ => wpAny (model pw w) A (eval slice env) (fun i s₂ => ItemOn (model pw w) A E o i Q s₂) E s₁) E s) :
    wpAny (model pw w) A (eval (.Subscript value slice pos) env) Q E s := by
  rw [eval_Subscript]
  refine wpAny_bind (wpAny_mono h (fun o s₁ h₁ => wpAny_bind (wpAny_holding (wpAny_mono h₁ (fun i s₂ h₂ => wpAny_bind (wpAny_standAt ?_)) fun _ _ x => x)))
    fun _ _ x => x)
  obtain ⟨T, id, hl, hT, hg⟩ := h₂
  refine wpAny_bind ?_; rw [getitemInPython_of_ne hT.not_modules]; refine wpAny_bind (wpAny_specialOf hT hl ?_)
  have fin : wpAny (model pw w) A (operate [o, i] (PySem.getItem o i)) (fun r s₃ => wpAny (model pw w) A (letTemporaryGo value o r >>= fun _ => pure r) Q E s₃) E s₂ :=
    wpAny_operating (wpAny_mono hg (fun r s₃ h₃ => wpAny_bind (wpAny_letTemporaryGo (wpAny_pure h₃))) fun _ _ x => x)
  have hs : ∀ o i, subscripted slice false o i = operate [o, i] (PySem.getItem o i) := fun o i => by
    cases slice <;> first | rfl | (exact absurd hn Bool.false_ne_true)
  refine wpAny_pure (wpAny_bind ?_)
  rw [hs]
  exact fin
theorem EV.item (ha : EV w k env ns a Λ σ x σ₁) (hb : EV w k env ns b Λ σ₁ y σ₂) (e : itemV σ₂ x y = some z) (hn : notSlice b = true) : EV w k env ns (.Subscript a b pos) Λ σ z σ₂ :=
  fun A s ρ Q E hr hi hs hl q => sub_plain hn (ha A s ρ _ E hr hi hs hl fun u h₁ t₁ ρ₁ g₁ s₁ r₁ => hb A _ ρ₁ _ E hr (hi.grow hs g₁) s₁ (hl.grow g₁) fun u' h₂ t₂ ρ₂ g₂ s₂ r₂ =>
    item_sound e ((hi.grow hs g₁).grow s₁ g₂) s₂ (r₁.grow g₂) r₂ fun t tk r => q t h₂ tk ρ₂ (g₁.trans g₂ s₂.nodup) s₂ r)

noncomputable def inV (σ : List Cell) : V → V → Option Bool
  | .int i, .ref c => match σ[c]? with
    | some .tab => some (shortTab.lookup i).isSome
    | _ => none
  | .str k, .g d => match dicTab d with
    | some tb => some (tb.lookup k).isSome
    | none => none
  | _, _ => none
theorem in_sound {A : Around} {s : Shared} {ρ : List Addr} {u u' : Value} {t : Bool} {Q : Value → Shared → Prop} {E : Value → Shared → Prop} (e : inV σ x y = some t) (hi : Inv w s.heap) (hs : Sto w s.heap ρ σ) (ru : Rep s.heap ρ u x) (rv : Rep s.heap ρ u' y)
    (q : ∀ tk, Q (.bool t) { s with toks := tk }) : wpAny (model pw w) A (compareOp .In u u') Q E s := by
  cases ru <;> first | (exact no_some e) | skip
  · rename_i i ti
    cases rv <;> first | (exact no_some e) | skip
    rename_i c a ea
    unfold inV at e
    dsimp only at e
    split at e
    · rename_i hc
      obtain rfl := Option.some.inj e
      obtain ⟨f, hm, hf⟩ := hs.cell c a _ ea hc
      have hsys : (a == sysModules) = false := by
        have hna := hs.new a (List.mem_of_getElem? ea)
        cases q : a == sysModules with
        | false => rfl
        | true =>
          exfalso
          have e1 : a = sysModules := by simpa using q
          have e2 : ((H1 w.params).get? sysModules).isSome = true := by kernel_rfl
          rw [e1] at hna; rw [hna] at e2; cases e2
      refine wpAny_in_of (intKind_is pw w i ti) hsys hm ?_
      have := hf i
      cases hk : shortTab.lookup i with
      | none => rw [hk] at this q; rw [this]; exact q _
      | some xs => rw [hk] at this q; obtain ⟨t, ht⟩ := this; rw [ht]; exact q _
    · cases e
  · rename_i kk tk
    cases rv <;> first | (exact no_some e) | skip
    unfold inV at e
    dsimp only at e
    split at e
    · rename_i tb htb
      obtain rfl := Option.some.inj e
      obtain ⟨a, f, rfl, hsy, hm, hf⟩ := dic_map hi htb
      have := hf ⟨kk.toArray⟩
      refine wpAny_in_of (strKind_is pw w _ tk) hsy hm ?_
      cases hk : tb.lookup kk with
      | none => rw [hk] at this q; rw [this]; exact q _
      | some xs => rw [hk] at this q; obtain ⟨t, ht⟩ := this; rw [ht]; exact q _
    · cases e
end
end Mine
namespace Mine

section
variable {w : World} {k : Nat} {env : Env} {ns : List Str} {Λ : List (Option V)} {σ σ₁ σ₂ σ₃ : List Cell} {e a b : PySem.Expr} {es : List PySem.Expr} {v x y z : V} {vs : List V} {pos p₂ : Pos}

theorem EV.ilst {xs : List V} (ha : EL w k env ns es Λ σ xs σ₁) (hn : xs.length ≤ 1000) : EV w k env ns (.List es pos) Λ σ (.lst xs) σ₁ :=
  fun A s ρ Q E hr hi hs hl q => wpAny_List (ha A s ρ pos _ E hr hi hs hl fun us h₁ t₁ ρ₁ g₁ s₁ r₁ => by
    refine ⟨by rw [r₁.1, sizeLine_eq]; lia, ?_⟩
    have kp := push_keeps (h := h₁) ({ cls := .type "list", data := .seq us.toArray } : Obj)
    have g₂ : Grow h₁ ρ₁ (h₁.push { cls := .type "list", data := .seq us.toArray }) ρ₁ := .keepAll kp
    have s₂ := s₁.keeps kp
    refine q _ _ t₁ ρ₁ (g₁.trans g₂ s₁.nodup) s₂ (.lst ⟨_, Heap.get?_push_size _ rfl, rfl, 0, rfl⟩ s₁.offNew r₁.1 fun i v x e1 e2 => (r₁.2 i v x e1 e2).grow g₂))

noncomputable def cmpS (σ : List Cell) (o : CmpOp) (x y : V) : Option Bool :=
  match cmpV o x y with
  | some t => some t
  | none => match o with
    | .In => inV σ x y
    | _ => none
theorem cmpS_sound {A : Around} {s : Shared} {ρ : List Addr} {u u' : Value} {o : CmpOp} {t : Bool} {Q : Value → Shared → Prop} {E : Value → Shared → Prop} (hu : A.units + 64 < cLine) (e : cmpS σ o x y = some t) (hi : Inv w s.heap) (hs : Sto w s.heap ρ σ) (ru : Rep s.heap ρ u x) (rv : Rep s.heap ρ u' y)
    (q : ∀ tk, Q (.bool t) { s with toks := tk }) : wpAny (model pw w) A (compareOp o u u') Q E s := by
  unfold cmpS at e
  split at e
  · rename_i t' ht
    obtain rfl := Option.some.inj e
    exact cmp_sound hu ht ru rv (q s.toks)
  · split at e
    · exact in_sound e hi hs ru rv q
    · cases e
theorem EV.cmpS {o : CmpOp} {t : Bool} (ha : EV w k env ns a Λ σ x σ₁) (hb : EV w k env ns b Λ σ₁ y σ₂) (e : cmpS σ₂ o x y = some t) (hk : 9 ≤ k) (hm : behindInMarks o b = false) : EV w k env ns (.Compare a [o] [b] pos) Λ σ (.bool t) σ₂ :=
  fun A s ρ Q E hr hi hs hl q => wpAny_Compare1 (ha A s ρ _ E hr hi hs hl fun u h₁ t₁ ρ₁ g₁ s₁ r₁ => hb A _ ρ₁ _ E hr (hi.grow hs g₁) s₁ (hl.grow g₁) fun v h₂ t₂ ρ₂ g₂ s₂ r₂ =>
    cmpS_sound (ρ := ρ₂) (by have := hr.hu; rw [cLine_is]; lia) e ((hi.grow hs g₁).grow s₁ g₂) s₂ (r₁.grow g₂) r₂ fun tk => q _ h₂ tk ρ₂ (g₁.trans g₂ s₂.nodup) s₂ (.bool _)) hm
theorem TV.cmpS {o : CmpOp} {t : Bool} (ha : EV w k env ns a Λ σ x σ₁) (hb : EV w k env ns b Λ σ₁ y σ₂) (e : Mine.cmpS σ₂ o x y = some t) (hk : 9 ≤ k) (hm : behindInMarks o b = false) : TV w k env ns (.Compare a [o] [b] pos) Λ σ t σ₂ :=
  fun A s ρ Q E hr hi hs hl q => wpAny_isTrue_Compare1 (ha A s ρ _ E hr hi hs hl fun u h₁ t₁ ρ₁ g₁ s₁ r₁ => hb A _ ρ₁ _ E hr (hi.grow hs g₁) s₁ (hl.grow g₁) fun v h₂ t₂ ρ₂ g₂ s₂ r₂ =>
    cmpS_sound (ρ := ρ₂) (by have := hr.hu; rw [cLine_is]; lia) e ((hi.grow hs g₁).grow s₁ g₂) s₂ (r₁.grow g₂) r₂ fun tk => wpAny_truthy_bool (q h₂ tk ρ₂ (g₁.trans g₂ s₂.nodup) s₂)) hm

/-! ## slices -/
noncomputable def sliceN (l : List Nat) (lo hi : Option Int) : List Nat :=
  let l := match hi with | some b => l.take b.toNat | none => l
  match lo with | some a => l.drop a.toNat | none => l
noncomputable def loOk : Option Int → Bool
  | some a => decide (0 ≤ a)
  | none => true
theorem pick_range (l : List Nat) : ∀ (n c : Nat), c + n ≤ l.length → ((List.range n).map fun k => c + k).filterMap (fun i => l[i]?) = (l.drop c).take n
  | 0, c, _ => by simp
  | n + 1, c, h => by
    have hc : c < l.length := by lia
    rw [List.range_succ, List.map_append, List.filterMap_append, pick_range l n c (by lia)]
    have hx : l[c + n]? = some (l[c + n]'(by lia)) := List.getElem?_eq_getElem (by lia)
    simp only [List.map_cons, List.map_nil, List.filterMap_cons, hx, List.filterMap_nil]
    rw [List.take_add_one, List.getElem?_drop, hx]
    rfl
theorem range_nat (a b : Nat) : sliceRange (a : Int) (b : Int) 1 = (List.range (b - a)).map fun k => a + k := by
  unfold sliceRange
  simp only [show (1 : Int) > 0 by decide, if_true]
  have e : (if (a : Int) < (b : Int) then ((b : Int) - a + 1 - 1) / 1 else 0).toNat = b - a := by
    split
    · rw [Int.ediv_one]; lia
    · show (0 : Int).toNat = _; simp; lia
  rw [e]
  refine List.map_congr_left fun k _ => ?_
  lia
theorem slice_eq (l : List Nat) (lo hi : Option Int) (h1 : loOk lo = true) (h2 : loOk hi = true) : Txt.slice ⟨l.toArray⟩ lo hi = ⟨(sliceN l lo hi).toArray⟩ := by
  have hlen : (⟨l.toArray⟩ : Str).length = l.length := by show l.toArray.size = _; simp
  have idx : ∃ a b : Nat, Builtin.Str.strSliceIndices lo hi 1 l.length = (List.range (b - a)).map (fun k => a + k) ∧ b ≤ l.length ∧ sliceN l lo hi = (l.take b).drop a := by
    refine ⟨(match lo with | some a => min a.toNat l.length | none => 0), (match hi with | some b => min b.toNat l.length | none => l.length), ?_, ?_, ?_⟩
    · rw [← range_nat]
      unfold Builtin.Str.strSliceIndices
      simp only [show (1 : Int) > 0 by decide, if_true]
      congr 1
      · cases lo with
        | none => rfl
        | some a =>
          have : 0 ≤ a := by simpa [loOk] using h1
          simp only [if_neg (Int.not_lt.mpr this)]
          lia
      · cases hi with
        | none => rfl
        | some b =>
          have : 0 ≤ b := by simpa [loOk] using h2
          simp only [if_neg (Int.not_lt.mpr this)]
          lia
    · cases hi <;> simp <;> lia
    · unfold sliceN
      have ht : ∀ n, l.take (min n l.length) = l.take n := fun n => by rw [← List.take_eq_take_min]
      have hd : ∀ (m : List Nat) n, m.length ≤ l.length → m.drop (min n l.length) = m.drop n := fun m n hm => by
        by_cases h : n ≤ l.length
        · rw [Nat.min_eq_left h]
        · rw [Nat.min_eq_right (by lia), List.drop_of_length_le hm, List.drop_of_length_le (by lia)]
      cases lo <;> cases hi <;> simp only [List.take_length, List.drop_zero, ht]
      · rw [hd _ _ (Nat.le_refl _)]
      · rw [hd _ _ (by simp; lia)]
  obtain ⟨a, b, e, hb, es⟩ := idx
  have key : (Builtin.Str.strSliceIndices lo hi 1 l.length).filterMap (fun i => l[i]?) = sliceN l lo hi := by
    rw [e, es]
    by_cases h : a ≤ b
    · rw [pick_range l (b - a) a (by lia), List.drop_take]
    · have : b - a = 0 := by lia
      rw [this]
      simp; lia
  have fm : ∀ is : List Nat, is.filterMap (fun i => (l.toArray)[i]?) = is.filterMap fun i => l[i]? := fun is => by
    congr 1; funext i; simp
  unfold Txt.slice
  rw [hlen]
  split
  · rename_i h
    have hl : (Builtin.Str.strSliceIndices lo hi 1 l.length).length = l.length := by simpa using h
    rw [e] at hl
    simp at hl
    have ha : a = 0 ∨ l.length = 0 := by lia
    have hb' : b = l.length ∨ l.length = 0 := by lia
    have : sliceN l lo hi = l := by
      rw [es]
      rcases ha with ha | ha
      · rcases hb' with hb' | hb'
        · rw [ha, hb']; simp
        · have : l = [] := List.length_eq_zero_iff.mp hb'
          subst this; simp
      · have : l = [] := List.length_eq_zero_iff.mp ha
        subst this; simp
    rw [this]
  · show (⟨(List.filterMap (fun i => (l.toArray)[i]?) _).toArray⟩ : Str) = _
    rw [fm, key]

noncomputable def OV (w : World) (k : Nat) (env : Env) (ns : List Str) (e : Option PySem.Expr) (Λ : List (Option V)) (σ : List Cell) (r : Option Int) (σ' : List Cell) : Prop :=
  ∀ (A : Around) (s : Shared) (ρ : List Addr) (Q : Value → Shared → Prop) (E : Value → Shared → Prop), Room A k → Inv w s.heap → Sto w s.heap ρ σ → Loc s.heap ρ env ns Λ →
    (∀ u h' tk ρ', Grow s.heap ρ h' ρ' → Sto w h' ρ' σ' → (match r with | none => u = .none | some i => ∃ t, u = .int i t) → Q u { s with heap := h', toks := tk }) →
    wpAny (model pw w) A (evalPart e env) Q E s
theorem OV.no : OV w k env ns none Λ σ none σ := fun A s ρ Q E hr hi hs hl q => wpAny_evalPart_none (q _ s.heap s.toks ρ .refl hs rfl)
theorem OV.yes {i : Int} (h : EV w k env ns e Λ σ (.int i) σ₁) : OV w k env ns (some e) Λ σ (some i) σ₁ := fun A s ρ Q E hr hi hs hl q => wpAny_evalPart_some (h A s ρ _ E hr hi hs hl fun u h₁ t₁ ρ₁ g₁ s₁ r₁ => by
  cases r₁
  exact q _ h₁ t₁ ρ₁ g₁ s₁ ⟨_, rfl⟩)
theorem sub_slice {A : Around} {s : Shared} {value : PySem.Expr} {lo hi : Option PySem.Expr} {Q : Value → Shared → Prop} {E : Value → Shared → Prop}
    (h : wpAny (model pw w) A (eval value env) (fun o s₁ => wpAny (model pw w) A (eval (.Slice lo hi none p₂) env) (fun i s₂ => ItemOn (model pw w) A E o i Q s₂) E s₁) E s) :
    wpAny (model pw w) A (eval (.Subscript value (.Slice lo hi none p₂) pos) env) Q E s := by
  rw [eval_Subscript]
  refine wpAny_bind (wpAny_mono h (fun o s₁ h₁ => wpAny_bind (wpAny_holding (wpAny_mono h₁ (fun i s₂ h₂ => wpAny_bind (wpAny_standAt ?_)) fun _ _ x => x)))
    fun _ _ x => x)
  obtain ⟨T, id, hl, hT, hg⟩ := h₂
  refine wpAny_bind ?_; rw [getitemInPython_of_ne hT.not_modules]; refine wpAny_bind (wpAny_specialOf hT hl ?_)
  have fin : wpAny (model pw w) A (operate [i, o] (PySem.getItem o i)) (fun r s₃ => wpAny (model pw w) A (letTemporaryGo value o r >>= fun _ => pure r) Q E s₃) E s₂ :=
    wpAny_operating (wpAny_mono hg (fun r s₃ h₃ => wpAny_bind (wpAny_letTemporaryGo (wpAny_pure h₃))) fun _ _ x => x)
  exact wpAny_pure (wpAny_bind fin)
theorem EV.slice {lo hi : Option PySem.Expr} {l : List Nat} {r₁ r₂ : Option Int} (ha : EV w k env ns a Λ σ (.str l) σ₁) (hlo : OV w k env ns lo Λ σ₁ r₁ σ₂) (hhi : OV w k env ns hi Λ σ₂ r₂ σ₃) (h1 : loOk r₁ = true) (h2 : loOk r₂ = true) (hsz : l.length ≤ 1000) :
    EV w k env ns (.Subscript a (.Slice lo hi none p₂) pos) Λ σ (.str (sliceN l r₁ r₂)) σ₃ :=
  fun A s ρ Q E hr hi hs hl q => sub_slice (ha A s ρ _ E hr hi hs hl fun u h₁ t₁ ρ₁ g₁ s₁ ra => wpAny_Slice (hlo A _ ρ₁ _ E hr (hi.grow hs g₁) s₁ (hl.grow g₁) fun u₁ h₂ t₂ ρ₂ g₂ s₂ rl =>
    hhi A _ ρ₂ _ E hr ((hi.grow hs g₁).grow s₁ g₂) s₂ ((hl.grow g₁).grow g₂) fun u₂ h₃ t₃ ρ₃ g₃ s₃ ru => wpAny_evalPart_none (by
      have g := (g₁.trans g₂ s₂.nodup).trans g₃ s₃.nodup
      cases ra with
      | str _ t =>
        have kh : KeptH (fun h => ∀ b o, h₃.get? b = some o → h.get? b = some o) := fun h ob ih b o e => push_keeps ob b o (ih b o e)
        have k0 : ∀ ob, (fun h => ∀ b o, h₃.get? b = some o → h.get? b = some o) (h₃.push ob) := fun ob => push_keeps ob
        have hz : (⟨l.toArray⟩ : Str).length ≤ sizeLine := by rw [sizeLine_eq]; show l.toArray.size ≤ _; simp; lia
        have fin : ∀ h' t' k', (∀ b o, h₃.get? b = some o → h'.get? b = some o) → Q (.str (Txt.slice ⟨l.toArray⟩ r₁ r₂) t') { s with heap := h', toks := k' } := fun h' t' k' kp => by
          rw [slice_eq l r₁ r₂ h1 h2]
          exact q _ h' k' ρ₃ (g.trans (.keepAll kp) s₃.nodup) (s₃.keeps kp) (.str _ _)
        have kp0 : ∀ b o, h₃.get? b = some o → h₃.get? b = some o := fun _ _ e => e
        cases r₁ with
        | none =>
          obtain rfl := rl
          cases r₂ with
          | none => obtain rfl := ru; exact SBH.sliceItem_nn (s := { s with heap := h₃, toks := t₃ }) kh kp0 fin hz
          | some j => obtain ⟨tj, rfl⟩ := ru; exact SBH.sliceItem_ns (s := { s with heap := h₃, toks := t₃ }) kh kp0 fin hz
        | some i =>
          obtain ⟨ti, rfl⟩ := rl
          cases r₂ with
          | none => obtain rfl := ru; exact SBH.sliceItem_sn (s := { s with heap := h₃, toks := t₃ }) kh kp0 fin hz
          | some j => obtain ⟨tj, rfl⟩ := ru; exact SBH.sliceItem_ss (s := { s with heap := h₃, toks := t₃ }) kh kp0 fin hz)))

/-! ## methods -/
noncomputable def baseOk : PySem.Expr → Bool
  | .Call .. => false
  | _ => true
theorem base_eq {n : Str} (h : baseOk a = true) : attributeBase a n env (eval a env) = eval a env := by
  cases a <;> first | rfl | (exact absurd h Bool.false_ne_true)
theorem trees_all : ∀ {es : List PySem.Expr}, noStars es = true → ∀ (pos : Pos), (backTo pos (starEach es env)).all (fun x => !x.1) = true
  | [], _, _ => rfl
  | e :: es, h, pos => by
    have h' : notStar e = true ∧ noStars es = true := by simpa [noStars] using h
    rw [starEach_cons h'.1]
    show (true && (backTo pos (starEach es env)).all (fun x => !x.1)) = true
    rw [trees_all h'.2 pos]; rfl
theorem few1 (h : notStar e = true) : ((backTo pos (starEach [e] env)).all (fun x => !x.1) && (backToKw pos (keywordEach [] env)).all (fun x => x.1.isSome) && decide (([e] : List PySem.Expr).length + ([] : List Keyword).length + (if ([] : List Keyword).isEmpty then 0 else 1) < 30)) = true := by
  rw [trees_all (by simp [noStars, h])]; rfl
theorem EV.lstrip {p₃ : Pos} {l m : List Nat} (ha : EV w k env ns a Λ σ (.str l) σ₁) (hb : EV w k env ns b Λ σ₁ (.str m) σ₂) (hbase : baseOk a = true) (hn : notStar b = true) (hline : (p₃.endLine == pos.line) = true) (hsz : l.length ≤ 1000) :
    EV w k env ns (.Call (.Attribute a "lstrip" p₃) [b] [] pos) Λ σ (.str (Txt.lstripChars ⟨l.toArray⟩ ⟨m.toArray⟩).cps.toList) σ₂ :=
  fun A s ρ Q E hr hi hs hl q => Call_method1 (base_eq hbase) (by rw [starEach_cons hn]; rfl) hline (ha A s ρ _ E hr hi hs hl fun u h₁ t₁ ρ₁ g₁ s₁ r₁ => by
    cases r₁ with
    | str _ t =>
      refine SB.lstripChars (hb A _ ρ₁ _ E hr (hi.grow hs g₁) s₁ (hl.grow g₁) fun u' h₂ t₂ ρ₂ g₂ s₂ r₂ => ?_) (by rw [sizeLine_eq]; show l.toArray.size ≤ _; simp; lia)
      cases r₂ with
      | str _ t' => exact ⟨_, _, rfl, fun t' k' => q _ h₂ k' ρ₂ (g₁.trans g₂ s₂.nodup) s₂ (.str (Txt.lstripChars ⟨l.toArray⟩ ⟨m.toArray⟩).cps.toList _)⟩)

noncomputable def strsOf : List V → Option (List (List Nat))
  | [] => some []
  | .str l :: r => (strsOf r).map (l :: ·)
  | _ => none
theorem strs_rep {h : Heap} {ρ : List Addr} : ∀ {Vs : List V} {ls : List (List Nat)} {us : List Value}, strsOf Vs = some ls → RepL h ρ us Vs → ∃ l : List (Str × Tok), us = strValues l ∧ l.map (·.1) = ls.map fun x => ⟨x.toArray⟩
  | [], ls, us, e, r => by
    obtain rfl := Option.some.inj e
    obtain rfl := r.nil_eq
    exact ⟨[], rfl, rfl⟩
  | x :: Vs, ls, us, e, r => by
    obtain ⟨u, us, rfl, ru, rs⟩ := r.head
    cases ru <;> first | (exact no_some e) | skip
    rename_i l t
    simp only [strsOf] at e
    cases q : strsOf Vs with
    | none => rw [q] at e; cases e
    | some ms =>
      rw [q] at e
      obtain rfl := Option.some.inj e
      obtain ⟨l', rfl, h2⟩ := strs_rep q rs
      exact ⟨(⟨l.toArray⟩, t) :: l', rfl, by simp [h2]⟩
noncomputable def listV (σ : List Cell) : V → Option (List V)
  | .lst l => some l
  | .ref c => match σ[c]? with | some (.list l) => some l | _ => none
  | _ => none
theorem listV_sound {h : Heap} {ρ : List Addr} {u : Value} {Vs : List V} (e : listV σ x = some Vs) (hs : Sto w h ρ σ) (r : Rep h ρ u x) : ∃ a us, u = .ref a ∧ h.IsList a us.toArray ∧ RepL h ρ us Vs := by
  cases r <;> first | (exact no_some e) | skip
  · rename_i c a ea
    unfold listV at e
    dsimp only at e
    split at e
    · rename_i l hc
      obtain rfl := Option.some.inj e
      obtain ⟨us, hp, hr⟩ := hs.cell c a _ ea hc
      exact ⟨a, us, rfl, hp.isList, hr⟩
    · cases e
  · rename_i a us Vs' hl ha hlen hv
    unfold listV at e
    dsimp only at e
    obtain rfl := Option.some.inj e
    exact ⟨a, us, rfl, hl, hlen, hv⟩
noncomputable def joinL (sep : List Nat) : List (List Nat) → List Nat
  | [] => []
  | [x] => x
  | x :: r => x ++ sep ++ joinL sep r
theorem join_eq (sep : List Nat) : ∀ ls : List (List Nat), Str.join ⟨sep.toArray⟩ (ls.map fun x => ⟨x.toArray⟩) = ⟨(joinL sep ls).toArray⟩
  | [] => rfl
  | [x] => rfl
  | x :: y :: r => by
    have ih := join_eq sep (y :: r)
    show (⟨x.toArray⟩ : Str) ++ ⟨sep.toArray⟩ ++ Str.join ⟨sep.toArray⟩ ((y :: r).map fun x => ⟨x.toArray⟩) = _
    rw [ih]
    show (⟨x.toArray ++ sep.toArray ++ (joinL sep (y :: r)).toArray⟩ : Str) = ⟨(x ++ sep ++ joinL sep (y :: r)).toArray⟩
    simp
noncomputable def joinFits (sep : List Nat) (ls : List (List Nat)) : Bool := decide ((ls.map (·.length)).sum + ls.length * sep.length ≤ 1000)
theorem joinOk_of {sep : List Nat} {ls : List (List Nat)} (h : joinFits sep ls = true) : JoinOk ⟨sep.toArray⟩ (ls.map fun x => ⟨x.toArray⟩) = true := by
  unfold JoinOk
  rw [Bool.not_eq_true']
  unfold Builtin.Str.tooLong
  rw [decide_eq_false_iff_not]
  rw [StrLaws.joinTotal]
  have : (ls.map (·.length)).sum + ls.length * sep.length ≤ 1000 := by simpa [joinFits] using h
  have e1 : (List.map (fun (x : Str) => x.length) (ls.map fun x => (⟨x.toArray⟩ : Str))) = ls.map (·.length) := by
    rw [List.map_map]; refine List.map_congr_left fun x _ => ?_; show x.toArray.size = _; simp
  have e2 : (⟨sep.toArray⟩ : Str).length = sep.length := by show sep.toArray.size = _; simp
  rw [sizeLine_eq, e1, e2, List.length_map]
  lia
theorem EV.join {p₃ : Pos} {sep : List Nat} {Vs : List V} {ls : List (List Nat)} (ha : EV w k env ns a Λ σ (.str sep) σ₁) (hb : EV w k env ns b Λ σ₁ y σ₂) (e1 : listV σ₂ y = some Vs) (e2 : strsOf Vs = some ls) (hj : joinFits sep ls = true) (hbase : baseOk a = true) (hn : notStar b = true) (hline : (p₃.endLine == pos.line) = true) :
    EV w k env ns (.Call (.Attribute a "join" p₃) [b] [] pos) Λ σ (.str (joinL sep ls)) σ₂ :=
  fun A s ρ Q E hr hi hs hl q => Call_method1 (base_eq hbase) (by rw [starEach_cons hn]; rfl) hline (ha A s ρ _ E hr hi hs hl fun u h₁ t₁ ρ₁ g₁ s₁ r₁ => by
    cases r₁ with
    | str _ t =>
      refine SB.join (hb A _ ρ₁ _ E hr (hi.grow hs g₁) s₁ (hl.grow g₁) fun u' h₂ t₂ ρ₂ g₂ s₂ r₂ => ?_)
      obtain ⟨D, us, rfl, hL, hR⟩ := listV_sound e1 s₂ r₂
      obtain ⟨l, rfl, ht⟩ := strs_rep e2 hR
      refine ⟨D, l, rfl, hL, _, ht, joinOk_of hj, fun t' k' => ?_⟩
      rw [show Txt.join ⟨sep.toArray⟩ (ls.map fun x => ⟨x.toArray⟩) = ⟨(joinL sep ls).toArray⟩ from (StrLaws.glued_eq_join _ _).trans (join_eq sep ls)]
      exact q _ h₂ k' ρ₂ (g₁.trans g₂ s₂.nodup) s₂ (.str _ _))
theorem Sto.put {h h' : Heap} {ρ : List Addr} {c : Nat} {A : Addr} {new : Cell} (s : Sto w h ρ σ) (ea : ρ[c]? = some A) (k : ∀ b o, b ≠ A → h.get? b = some o → h'.get? b = some o) (hc : CellAt w h' ρ A new) : Grow h ρ h' ρ ∧ Sto w h' ρ (σ.set c new) := by
  have g : Grow h ρ h' ρ := .at fun b o hb e => k b o (fun q => hb (q ▸ List.mem_of_getElem? ea)) e
  refine ⟨g, by rw [List.length_set]; exact s.len, s.nodup, fun i a cc e1 e2 => ?_, s.new⟩
  by_cases hic : i = c
  · subst hic
    rw [ea] at e1; obtain rfl := Option.some.inj e1
    have hlt : i < σ.length := by rw [← s.len]; exact (List.getElem?_eq_some_iff.mp ea).1
    rw [List.getElem?_set_self hlt] at e2
    obtain rfl := Option.some.inj e2
    exact hc
  · rw [List.getElem?_set_ne (Ne.symm hic)] at e2
    exact CellAt.keeps (c := cc) (s.cell i a cc e1 e2) g fun o e => k a o (fun q => hic (nodup_idx s.nodup e1 (q ▸ ea))) e
theorem EV.append {p₃ : Pos} {c : Nat} {l : List V} (ha : EV w k env ns a Λ σ (.ref c) σ₁) (hb : EV w k env ns b Λ σ₁ x σ₂) (h1 : ∃ l', σ₁[c]? = some (.list l')) (e : σ₂[c]? = some (.list l)) (hsz : l.length ≤ 1000) (hbase : baseOk a = true) (hn : notStar b = true) (hline : (p₃.endLine == pos.line) = true) :
    EV w k env ns (.Call (.Attribute a "append" p₃) [b] [] pos) Λ σ .none (σ₂.set c (.list (l ++ [x]))) :=
  fun A s ρ Q E hr hi hs hl q => wpAny_Call_append (base_eq hbase) (few1 hn) hline (by rw [starEach_cons hn]; rfl) (ha A s ρ _ E hr hi hs hl fun u h₁ t₁ ρ₁ g₁ s₁ r₁ => by
    cases r₁ with
    | @ref _ D ea =>
      obtain ⟨l', h1⟩ := h1
      obtain ⟨us, hp, hR⟩ := s₁.cell c D _ ea h1
      refine ⟨D, us.toArray, rfl, hp, hb A _ ρ₁ _ E hr (hi.grow hs g₁) s₁ (hl.grow g₁) fun u' h₂ t₂ ρ₂ g₂ s₂ r₂ => ?_⟩
      have ea₂ := g₂.sub ea
      obtain ⟨us₂, hp₂, hR₂⟩ := s₂.cell c D _ ea₂ e
      refine list_append_plainL hp₂ (fun h₃ hp₃ hsb => ?_) (by rw [sizeLine_eq]; have := hR₂.1; simp; lia)
      have k : ∀ b o, b ≠ D → h₂.get? b = some o → h₃.get? b = some o := fun b o hb e => (hsb.2 b hb).trans e
      have g₃ : Grow h₂ ρ₂ h₃ ρ₂ := .at fun b o hb e => k b o (fun q => hb (q ▸ List.mem_of_getElem? ea₂)) e
      have hnew : CellAt w h₃ ρ₂ D (.list (l ++ [x])) := ⟨us₂ ++ [u'], by simpa using hp₃, by
        refine ⟨by simp [hR₂.1], fun i v y e1 e2 => ?_⟩
        by_cases hi : i < us₂.length
        · rw [List.getElem?_append_left hi] at e1
          rw [List.getElem?_append_left (by rw [← hR₂.1]; exact hi)] at e2
          exact (hR₂.2 i v y e1 e2).grow g₃
        · rw [List.getElem?_append_right (by lia)] at e1
          rw [List.getElem?_append_right (by rw [← hR₂.1]; lia)] at e2
          have : i - us₂.length = 0 := by have := (List.getElem?_eq_some_iff.mp e1).1; simpa using this
          rw [this] at e1; rw [← hR₂.1, this] at e2
          simp at e1 e2; subst e1 e2
          exact r₂.grow g₃⟩
      obtain ⟨g, s₃⟩ := s₂.put ea₂ k hnew
      exact q _ h₃ t₂ ρ₂ ((g₁.trans g₂ s₂.nodup).trans g s₂.nodup) s₃ .none)
end
end Mine
namespace Mine

/-! ## values without references -/
inductive RF : V → Prop where
  | none : RF .none
  | bool (b : Bool) : RF (.bool b)
  | int (i : Int) : RF (.int i)
  | str (l : List Nat) : RF (.str l)
  | tup (l : List V) : (∀ x ∈ l, RF x) → RF (.tup l)
  | lst (l : List V) : (∀ x ∈ l, RF x) → RF (.lst l)
  | g (v : Value) : RF (.g v)
theorem Rep.bare {h h' : Heap} {ρ : List Addr} {u : Value} {x : V} (r : Rep h ρ u x) (hx : RF x) (k : ∀ b o, b ∉ ρ → solid o = true → h.get? b = some o → h'.get? b = some o) : Rep h' [] u x := by
  induction r with
  | none => exact .none
  | bool b => exact .bool b
  | int i t => exact .int i t
  | str l t => exact .str l t
  | tup ht ha hl _ ih =>
    cases hx with
    | tup _ hx =>
      obtain ⟨o, ho, hc, n, hd⟩ := ht
      exact .tup ⟨o, k _ o ha (by simp [solid, hd]) ho, hc, n, hd⟩ (by simp) hl fun i v x e1 e2 => ih i v x e1 e2 (hx x (List.mem_of_getElem? e2))
  | ref e => cases hx
  | obj e ha hi => cases hx
  | lst hl ha hn _ ih =>
    cases hx with
    | lst _ hx =>
      obtain ⟨o, ho, hc, n, hd⟩ := hl
      exact .lst ⟨o, k _ o ha (by simp [solid, hd]) ho, hc, n, hd⟩ (by simp) hn fun i v x e1 e2 => ih i v x e1 e2 (hx x (List.mem_of_getElem? e2))
  | g v => exact .g v
noncomputable def scal : V → Bool
  | .none => true
  | .bool _ => true
  | .int _ => true
  | .str _ => true
  | _ => false
theorem Rep.scal {h h' : Heap} {ρ ρ' : List Addr} {u : Value} {x : V} (r : Rep h ρ u x) (hx : scal x = true) : Rep h' ρ' u x := by
  cases r <;> first | (exact absurd hx Bool.false_ne_true) | constructor

/-! ## the free names of a comprehension -/
noncomputable def clOf (env : Env) : List (Str × NameKind) → List (Str × Addr) → List (Str × Addr)
  | [], acc => acc
  | (n, k) :: r, acc => if k == .free then clOf env r ((n, (env.cells.lookup n).getD 0) :: acc) else clOf env r acc
theorem closure_eq {scope : Scope} {env : Env} (hf : ∀ y ∈ scope.names, y.2 = .free → (env.cells.lookup y.1).isSome = true) : closureFor scope env = pure (clOf env scope.names []) := by
  unfold closureFor
  have go : ∀ (l : List (Str × NameKind)) (acc : List (Str × Addr)), (∀ y ∈ l, y.2 = .free → (env.cells.lookup y.1).isSome = true) →
      (forIn l acc fun (x : Str × NameKind) (r : List (Str × Addr)) => (if x.2 == .free then (do let a ← cellOf env x.1; pure (ForInStep.yield ((x.1, a) :: r))) else pure (ForInStep.yield r) : Sem _)) = pure (clOf env l acc) := by
    intro l
    induction l with
    | nil => intro acc _; rfl
    | cons p l ih =>
      intro acc h
      obtain ⟨n, k⟩ := p
      rw [List.forIn_cons]
      unfold clOf
      by_cases hk : (k == NameKind.free) = true
      · have hs := h (n, k) (.head _) (by simpa using hk)
        obtain ⟨c, hc⟩ := Option.isSome_iff_exists.mp hs
        have e1 : cellOf env n = pure c := by unfold cellOf; rw [show env.cells.lookup n = some c from hc]
        simp only [hk, if_true, e1, pure_bind]
        rw [show env.cells.lookup n = some c from hc]
        exact ih _ fun y hy => h y (.tail _ hy)
      · simp only [hk, if_false, Bool.false_eq_true, pure_bind]
        exact ih _ fun y hy => h y (.tail _ hy)
  have := go scope.names [] hf
  simp only [bind_pure]
  first
    | exact this
    | (rw [← this]; rfl)
    | (rw [← this]; congr 1; funext x r; split <;> simp_all)

theorem cl_sub {env : Env} {y : Str} {c : Addr} : ∀ {names : List (Str × NameKind)} {acc : List (Str × Addr)}, (∀ p ∈ names, p.2 = .free → (env.cells.lookup p.1).isSome = true) → (clOf env names acc).lookup y = some c →
    acc.lookup y = some c ∨ env.cells.lookup y = some c
  | [], _, _, h => .inl h
  | (n, k) :: r, acc, hf, h => by
    unfold clOf at h
    split at h
    · rename_i hk
      rcases cl_sub (fun p hp => hf p (.tail _ hp)) h with h | h
      · rw [List.lookup_cons] at h
        split at h
        · rename_i q
          obtain ⟨c', hc'⟩ := Option.isSome_iff_exists.mp (hf (n, k) (.head _) (by simpa using hk))
          have hc'' : env.cells.lookup n = some c' := hc'
          rw [hc''] at h
          have : y = n := by simpa using q
          right; rw [this, hc'']; exact h
        · exact .inl h
      · exact .inr h
    · exact cl_sub (fun p hp => hf p (.tail _ hp)) h
theorem cl_dom {env : Env} {y : Str} : ∀ {names : List (Str × NameKind)} {acc : List (Str × Addr)}, (y, NameKind.free) ∈ names ∨ (acc.lookup y).isSome = true → ((clOf env names acc).lookup y).isSome = true
  | [], _, h => by
    rcases h with h | h
    · cases h
    · exact h
  | (n, k) :: r, acc, h => by
    unfold clOf
    split
    · refine cl_dom ?_
      by_cases q : y = n
      · right; simp [q, List.lookup_cons]
      · rcases h with h | h
        · cases h with
          | head => exact absurd rfl q
          | tail _ h => exact .inl h
        · right; rw [List.lookup_cons]; simpa [beq_false_of_ne q] using h
    · rename_i hk
      refine cl_dom ?_
      rcases h with h | h
      · cases h with
        | head => exact absurd rfl hk
        | tail _ h => exact .inl h
      · exact .inr h
noncomputable def relS (scope outer : Scope) : Scope :=
  { scope with names := scope.names.map fun (n, k) => if (k == .free && outer.kind == .function && outer.names.lookup n == some .cell) then (n, .cell) else (n, k) }
theorem mem_of_lookup' {names : List (Str × NameKind)} {x : Str} {k : NameKind} (h : names.lookup x = some k) : (x, k) ∈ names := by
  induction names with
  | nil => simp at h
  | cons p r ih =>
    obtain ⟨n, k'⟩ := p
    rw [List.lookup_cons] at h
    split at h
    · rename_i q
      have : x = n := by simpa using q
      cases h; rw [this]; exact .head _
    · exact .tail _ (ih h)

section
variable {w : World} {k : Nat} {env : Env} {ns : List Str} {Λ : List (Option V)} {σ σ₁ σ₂ σ₃ : List Cell} {iter elt : PySem.Expr} {v x y z : V} {Vs Ys : List V} {pos px : Pos}

noncomputable def Uniq (Vs Ys : List V) : Prop := ∀ (u : Value) (i j : Nat) (x x' : V), Vs[i]? = some x → Vs[j]? = some x' → (∃ h ρ, Rep h ρ u x) → (∃ h ρ, Rep h ρ u x') → Ys[i]? = Ys[j]?
structure CompOk (env : Env) (scope : Scope) (n : Str) (fr : List (Str × Nat)) (ns : List Str) : Prop where
  kind : scope.kind = .function
  names : ∀ y ∈ scope.names, y.2 = .local → scope.names.lookup y.1 = some .local
  cell : ∀ y ∈ scope.names, y.2 ≠ .cell
  var : scope.names.lookup n = some .local
  free : ∀ y ∈ scope.names, y.2 = .free → env.kindOf y.1 = some .cell
  frs : ∀ f ∈ fr, scope.names.lookup f.1 = some .free ∧ ns[f.2]? = some f.1

theorem EV.comp {n : Str} {scope : Scope} {fr : List (Str × Nat)} (ok : EnvOk env) (co : CompOk env scope n fr ns) (hI : IV w k env ns iter Λ σ Vs σ₁ true) (hf : ∀ x, foldedSetIterable iter env x = pure x)
    (hel : ∀ (i : Nat) x y, Vs[i]? = some x → Ys[i]? = some y → ∀ env', EnvOk env' → env'.scope = relS scope env.scope → ∃ σ', EV w k env' (n :: fr.map (·.1)) elt (some x :: fr.map fun f => (Λ[f.2]?).join) [] y σ')
    (hV : ∀ x ∈ Vs, RF x) (hfr : ∀ f ∈ fr, ∀ v, Λ[f.2]? = some (some v) → RF v) (hS : ∀ y ∈ Ys, scal y = true) (hu : Uniq Vs Ys) (hlen : Ys.length = Vs.length) (hsz : Vs.length ≤ 1000) :
    EV w k env ns (.ListComp elt [⟨.Name n px, iter, [], 0⟩] scope pos) Λ σ (.lst Ys) σ₁ := fun A s ρ Q E hr hi hs hl q => by
  have hfs : ∀ y ∈ scope.names, y.2 = .free → (env.cells.lookup y.1).isSome = true := fun y hy hk => Option.isSome_iff_exists.mpr (ok.c _ (co.free y hy hk))
  have hcl : ∀ y c, (clOf env scope.names []).lookup y = some c → env.cells.lookup y = some c := fun y c h => by
    rcases cl_sub hfs h with h | h
    · simp at h
    · exact h
  refine wpAny_ListComp_free (cl := clOf env scope.names []) (fun _ => true) (fun (u y : Value) => ∃ (i : Nat) (x z : V), Vs[i]? = some x ∧ (∃ h ρ, Rep h ρ u x) ∧ Ys[i]? = some z ∧ ∀ h ρ, Rep h ρ y z)
    (closure_eq hfs) co.cell co.kind co.names co.var (hI A s ρ _ E hr hi hs hl fun I h₁ tk ρ₁ h₀ fp P St g₁ s₁ src => ?_) hf
  have hl₀ := hl.grow g₁
  have hi₀ := hi.grow hs g₁
  have W := src.walks A hr.hh
  refine ⟨I, fp, [I], Vs.length, P, St, rfl, W, by rw [sizeLine_eq]; lia, src.start, fun b hb => ?_, ⟨?_, ?_⟩, ?_⟩
  · by_cases hbI : b = I
    · subst hbI
      obtain ⟨o, e, _⟩ := src.live _ _ src.start
      exact Heap.lt_size e
    · obtain ⟨_, o, e, _⟩ := src.foot b hb hbI
      exact Heap.lt_size (src.keep _ _ e)
  · intro C i u s₃ m₃ E' _ _ _ _ _ _
    exact wpAny_pure ⟨rfl, s₃.heap, s₃.toks, rfl, fun _ _ e => e⟩
  · intro C i u s₃ m₃ E' hC hP _ hn hm hk htk
    have hlt := src.fin rfl i u hP
    have hx : Vs[i]? = some Vs[i] := List.getElem?_eq_getElem hlt
    have hy : Ys[i]? = some (Ys[i]'(by rw [hlen]; exact hlt)) := List.getElem?_eq_getElem _
    have ru := src.item i u _ hP hx
    have kp : ∀ b o, h₀.get? b = some o → s₃.heap.get? b = some o := fun b o e => hk b o (fun hm => by
      rw [List.mem_singleton.mp hm] at e; rw [src.fresh] at e; cases e) (src.keep b o e)
    have kp' : ∀ b o, b ∉ ρ₁ → solid o = true → h₀.get? b = some o → s₃.heap.get? b = some o := fun b o _ _ e => kp b o e
    have hi₃ : Inv w s₃.heap := fun b o e => kp b o (hi₀ b o e)
    have hC' : 464 ≤ C := by
      obtain ⟨o, e⟩ := Option.isSome_iff_exists.mp (show ((H1 w.params).get? 463).isSome = true by kernel_rfl)
      exact Nat.le_trans (Heap.lt_size (src.keep _ _ (hi₀ _ _ e))) hC
    have okE : EnvOk (compEnvC scope (clOf env scope.names []) C env) := by
      refine ⟨ok.g, ok.b, co.kind, fun y hy => ?_, fun y y' c e1 e2 => ok.inj y y' c (hcl _ _ e1) (hcl _ _ e2)⟩
      have hm := mem_of_lookup' (show (relS scope env.scope).names.lookup y = some .cell from hy)
      obtain ⟨⟨n', k'⟩, hp, hq⟩ := List.mem_map.mp hm
      dsimp only at hq
      split at hq
      · rename_i hfr'
        obtain ⟨rfl, _⟩ := Prod.mk.inj hq
        have hk' : k' = NameKind.free := by
          simp only [Bool.and_eq_true] at hfr'
          simpa using hfr'.1.1
        subst hk'
        exact Option.isSome_iff_exists.mp (cl_dom (.inl hp))
      · obtain ⟨rfl, rfl⟩ := Prod.mk.inj hq
        exact absurd rfl (co.cell _ hp)
    have hCl : ∀ c o, h₀.get? c = some o → c ≠ C := fun c o e hc => Nat.not_lt.mpr hC (hc ▸ Heap.lt_size (src.keep _ _ e))
    have hL : Loc s₃.heap [] (compEnvC scope (clOf env scope.names []) C env) (n :: fr.map (·.1)) (some Vs[i] :: fr.map fun f => (Λ[f.2]?).join) := by
      refine ⟨⟨m₃, hn⟩, by simp, hC', fun x c e => ?_, fun j x v e1 e2 => ?_⟩
      · obtain ⟨_, _, h3, u', o, ho, hd⟩ := hl₀.offc x c (hcl x c e)
        exact ⟨by simp, hCl c o ho, h3, u', o, kp _ _ ho, hd⟩
      · cases j with
        | zero =>
          simp at e1 e2
          subst e1 e2
          exact ⟨u, .inl ⟨lookup_relabel_local co.var, m₃, hn, hm⟩, ru.bare (hV _ (List.getElem_mem _)) kp'⟩
        | succ j =>
          simp only [List.getElem?_cons_succ, List.getElem?_map] at e1 e2
          cases hf' : fr[j]? with
          | none => rw [hf'] at e1; simp at e1
          | some f =>
            rw [hf'] at e1 e2
            simp only [Option.map_some, Option.some.injEq] at e1 e2
            subst e1
            have hfm := List.mem_of_getElem? hf'
            obtain ⟨hfree, hnf⟩ := co.frs f hfm
            have hΛ : Λ[f.2]? = some (some v) := by
              cases q : Λ[f.2]? with
              | none => rw [q] at e2; simp at e2
              | some o => rw [q] at e2; simp at e2; rw [e2]
            obtain ⟨u', hu', r'⟩ := hl₀.var f.2 f.1 v hnf hΛ
            have hkc := co.free (f.1, .free) (mem_of_lookup' hfree) rfl
            refine ⟨u', .inr ⟨.inl ?_, ?_⟩, r'.bare (hfr f hfm v hΛ) kp'⟩
            · show (relS scope env.scope).names.lookup f.1 = some .cell
              have key : ∀ names : List (Str × NameKind), names.lookup f.1 = some .free →
                  (names.map fun (n, k) => if (k == NameKind.free && env.scope.kind == .function && env.scope.names.lookup n == some .cell) then (n, NameKind.cell) else (n, k)).lookup f.1 = some .cell := by
                intro names
                induction names with
                | nil => intro h; simp at h
                | cons p r ih =>
                  intro h
                  obtain ⟨n', k'⟩ := p
                  rw [List.lookup_cons] at h
                  rw [List.map_cons, List.lookup_cons]
                  by_cases q : f.1 = n'
                  · have hb : (f.1 == n') = true := by simpa using q
                    rw [hb] at h
                    obtain rfl := Option.some.inj h
                    have hc : (NameKind.free == NameKind.free && env.scope.kind == .function && env.scope.names.lookup n' == some .cell) = true := by
                      rw [← q, show env.scope.names.lookup f.1 = some .cell from hkc, ok.k]; rfl
                    simp only [hc, if_true, hb]
                  · have hb : (f.1 == n') = false := by simpa using q
                    rw [hb] at h
                    have := ih h
                    split
                    · rename_i hh
                      split at hh <;> (simp only [hb] at hh; cases hh)
                    · exact this
              exact key _ hfree
            · rcases hu' with ⟨hk', _⟩ | ⟨_, c, hc, hcell⟩
              · rw [hkc] at hk'; cases hk'
              · obtain ⟨c', hc'⟩ := Option.isSome_iff_exists.mp (cl_dom (env := env) (acc := []) (.inl (mem_of_lookup' hfree)))
                have := hcl _ _ hc'
                rw [hc] at this
                obtain rfl := Option.some.inj this
                obtain ⟨o, ho, hd⟩ := hcell
                exact ⟨c, hc', o, kp _ _ ho, hd⟩
    obtain ⟨σ', hev⟩ := hel i _ _ hx hy _ okE rfl
    refine hev A s₃ [] _ _ hr hi₃ ⟨rfl, List.nodup_nil, fun _ _ _ e => by simp at e, fun _ h => by cases h⟩ hL fun y h' tk' ρ' g' s' r' => ?_
    exact ⟨⟨i, _, _, hx, ⟨h₀, ρ₁, ru⟩, hy, fun h ρ => r'.scal (hS _ (List.getElem_mem _))⟩, h', tk', rfl, fun b o e => g'.keep b o (by simp) e⟩
  · intro D h' tk' ys vs hD hL hPL hvl hP hF hk
    have kp : ∀ b o, h₀.get? b = some o → h'.get? b = some o := fun b o e => hk b o (fun hm => by
      rw [List.mem_singleton.mp hm] at e; rw [src.fresh] at e; cases e) (src.keep b o e)
    have hft : vs.filter (fun _ => true) = vs := List.filter_eq_self.mpr fun _ _ => rfl
    rw [hft] at hF
    have paired : ∀ {l₁ l₂ : List Value} {F : Value → Value → Prop}, Paired F l₁ l₂ → l₁.length = l₂.length ∧ ∀ (i : Nat) (a b : Value), l₁[i]? = some a → l₂[i]? = some b → F a b := by
      intro l₁ l₂ F h
      induction h with
      | nil => exact ⟨rfl, fun _ _ _ e => by simp at e⟩
      | cons hab _ ih =>
        refine ⟨by simp [ih.1], fun i a b e1 e2 => ?_⟩
        cases i with
        | zero => simp at e1 e2; subst e1 e2; exact hab
        | succ i => exact ih.2 i a b (by simpa using e1) (by simpa using e2)
    obtain ⟨hpl, hpi⟩ := paired hF
    refine q (.ref D) h' tk' ρ₁ (g₁.trans (.keepAll kp) s₁.nodup) (s₁.keeps kp) (.lst (vs := ys.toList) (by simpa using hL) (fun hm => ?_) (by lia) fun i v x e1 e2 => ?_)
    · obtain ⟨o, e⟩ := s₁.live hm
      have := src.keep _ _ e
      rw [show h₁.get? D = none from hD] at this; cases this
    · have hi1 : i < vs.length := by rw [hpl]; exact (List.getElem?_eq_some_iff.mp e1).1
      have hv : vs[i]? = some vs[i] := List.getElem?_eq_getElem hi1
      obtain ⟨j, xj, z, hxj, hrj, hyj, hz⟩ := hpi i _ _ hv e1
      have hxi : Vs[i]? = some (Vs[i]'(by lia)) := List.getElem?_eq_getElem _
      have := hu vs[i] j i xj _ hxj hxi hrj ⟨h₀, ρ₁, src.item i _ _ (hP i _ hv) hxi⟩
      rw [hyj, e2] at this
      obtain rfl := Option.some.inj this
      exact hz _ _
end
end Mine
namespace Mine
section
variable {w : World} {k : Nat} {env : Env} {ns : List Str} {Λ : List (Option V)} {σ σ₁ σ₂ σ₃ : List Cell} {a b e : PySem.Expr} {v x y z : V} {Vs Ys : List V} {pos px : Pos}

noncomputable def intKey : Option PySem.Expr → Option Int
  | some (.Constant (.int i) _ _) => some i
  | _ => none
noncomputable def strVal : PySem.Expr → Option Str
  | .Constant (.str x) _ _ => some x
  | _ => none
theorem intKey_is {o : Option PySem.Expr} {i : Int} (h : intKey o = some i) : ∃ k p, o = some (.Constant (.int i) k p) := by
  unfold intKey at h
  split at h
  · cases h; exact ⟨_, _, rfl⟩
  · cases h
theorem strVal_is {o : PySem.Expr} {i : Str} (h : strVal o = some i) : ∃ k p, o = .Constant (.str i) k p := by
  unfold strVal at h
  split at h
  · cases h; exact ⟨_, _, rfl⟩
  · cases h
noncomputable def tabIs : List (Option PySem.Expr) → List PySem.Expr → List (Int × List Nat) → Bool
  | [], [], [] => true
  | o :: ks, v :: vs, p :: ps => decide (intKey o = some p.1) && decide (strVal v = some ⟨p.2.toArray⟩) && tabIs ks vs ps
  | _, _, _ => false
noncomputable def PairsAre : List (Value × Value) → List (Int × List Nat) → Prop
  | [], [] => True
  | u :: us, p :: ps => (∃ t, u.1 = .int p.1 t) ∧ (∃ t, u.2 = .str ⟨p.2.toArray⟩ t) ∧ PairsAre us ps
  | _, _ => False
theorem tab_pairs {A : Around} {E : Value → Shared → Prop} (ps : List (Int × List Nat)) : ∀ (keys : List (Option PySem.Expr)) (values : List PySem.Expr) (s : Shared) (Q : List (Value × Value) → Shared → Prop), tabIs keys values ps = true →
    (∀ us tk, PairsAre us ps → Q us { s with toks := tk }) → wpAny (model pw w) A (evalPairs (pairTrees keys values env pos)) Q E s := by
  induction ps with
  | nil =>
    intro keys values s Q h q
    cases keys <;> cases values <;> first | (exact absurd h Bool.false_ne_true) | skip
    exact pairTrees_nil_walk (q [] s.toks trivial)
  | cons p ps ih =>
    intro keys values s Q h q
    cases keys with
    | nil => cases values <;> exact absurd h Bool.false_ne_true
    | cons o ks =>
      cases values with
      | nil => exact absurd h Bool.false_ne_true
      | cons v vs =>
        simp only [tabIs, Bool.and_eq_true, decide_eq_true_eq] at h
        obtain ⟨⟨h1, h2⟩, h3⟩ := h
        obtain ⟨k₁, p₁, rfl⟩ := intKey_is h1
        obtain ⟨k₂, p₂, rfl⟩ := strVal_is h2
        exact pairTrees_cons_walk (wpAny_Constant_int (wpAny_Constant_str (ih ks vs _ _ h3 fun us tk hu => q _ tk ⟨⟨_, rfl⟩, ⟨_, rfl⟩, hu⟩)))
theorem pairs_int : ∀ {us : List (Value × Value)} {ps : List (Int × List Nat)}, PairsAre us ps → allIntKeys us = true ∧ (intKeyPairs us).map (·.1) = ps.map (·.1) ∧
    ∀ k, match ps.lookup k with | some x => ∃ t, valueAt (intKeyPairs us) k = some (.str ⟨x.toArray⟩ t) | none => valueAt (intKeyPairs us) k = none
  | [], [], _ => ⟨rfl, rfl, fun k => by simp [intKeyPairs, valueAt]⟩
  | (u, v) :: us, p :: ps, ⟨⟨t, h1⟩, ⟨t', h2⟩, h3⟩ => by
    obtain ⟨i1, i2, i3⟩ := pairs_int h3
    dsimp only at h1 h2
    subst h1 h2
    refine ⟨i1, by simp [intKeyPairs, i2], fun k => ?_⟩
    have := i3 k
    rw [List.lookup_cons]
    by_cases q : k = p.1
    · have hb : (k == p.1) = true := by simpa using q
      rw [hb]
      exact ⟨t', by simp [intKeyPairs, valueAt, q]⟩
    · have hb : (k == p.1) = false := by simpa using q
      rw [hb]
      have e : valueAt (intKeyPairs ((Value.int p.1 t, Value.str ⟨p.2.toArray⟩ t') :: us)) k = valueAt (intKeyPairs us) k := by
        have q' : ¬ p.1 = k := fun h => q h.symm
        simp [intKeyPairs, valueAt, q, q']
      simp only [e]
      exact this
  | [], _ :: _, x => x.elim
  | _ :: _, [], x => x.elim
theorem EV.tab {keys : List (Option PySem.Expr)} {values : List PySem.Expr} (h : tabIs keys values shortTab = true) (hall : keys.all (·.isSome) = true) (hl : keys.length = values.length) (h0 : keys ≠ []) (hlen : keys.length ≤ 15) :
    EV w k env ns (.Dict keys values pos) Λ σ (.ref σ.length) (σ ++ [.tab]) := fun A s ρ Q E hr hi hs hlo q => by
  refine wpAny_Dict_walk (knd := intKind pw w) hall hl h0 hlen (tab_pairs shortTab keys values _ _ h fun us tk hu => ?_)
  obtain ⟨i1, i2, i3⟩ := pairs_int hu
  refine display_done_int (P := fun h' => Q (.ref s.heap.objs.size) _) i1 (by rw [i2]; decide) (Heap.DictOf.new _) fun h' hd hsb => ?_
  have kp : ∀ b o, s.heap.get? b = some o → h'.get? b = some o := fun b o e => (hsb.2 b (Nat.ne_of_lt (Heap.lt_size e))).trans (push_keeps _ b o e)
  have g : Grow s.heap ρ h' (ρ ++ [s.heap.objs.size]) := ⟨fun b o _ e => kp b o e, [s.heap.objs.size], rfl, fun a ha => by rw [List.mem_singleton.mp ha]; exact get?_size⟩
  refine q _ h' _ (ρ ++ [s.heap.objs.size]) g ⟨by simp [hs.len], ?_, fun j a c e1 e2 => ?_, fun a ha => ?_⟩ (.ref (by rw [← hs.len]; simp))
  · rw [List.nodup_append]
    exact ⟨hs.nodup, by simp, fun a ha b hb => by rw [List.mem_singleton.mp hb]; exact Nat.ne_of_lt (hs.lt ha)⟩
  · by_cases hj : j < ρ.length
    · rw [List.getElem?_append_left hj] at e1
      rw [List.getElem?_append_left (hs.len ▸ hj)] at e2
      exact CellAt.keeps (c := c) (hs.cell j a c e1 e2) g fun o e => kp _ _ e
    · have hl : j = ρ.length := by
        have := (List.getElem?_eq_some_iff.mp e1).1
        simp at this; lia
      subst hl
      rw [List.getElem?_append_right (Nat.le_refl _)] at e1
      rw [List.getElem?_append_right (by rw [hs.len]; exact Nat.le_refl _)] at e2
      simp [hs.len] at e1 e2
      subst e1 e2
      exact ⟨_, hd.mapOf, i3⟩
  · rcases List.mem_append.mp ha with ha | ha
    · exact hs.new a ha
    · rw [List.mem_singleton.mp ha]; exact hs.base hi get?_size

theorem E1.setitem {p₂ : Pos} {c : Nat} {i : Int} {l : List V} (hv : EV w k env ns e Λ σ x σ₁) (ha : EV w k env ns a Λ σ₁ (.ref c) σ₂) (hb : EV w k env ns b Λ σ₂ (.int i) σ₃) (hc : σ₃[c]? = some (.arr l)) (h0 : 0 ≤ i) (h1 : i < l.length) (h2 : i < 2 ^ 62)
    (hw : swapsWith e (some (.Subscript a b p₂)) pos.line env = pure false) : E1 w k env ns (.Assign [.Subscript a b p₂] e pos) Λ σ (.next Λ (σ₃.set c (.arr (l.set i.toNat x)))) :=
  fun A s ρ Q E hr hi hs hl q => wpAny_Assign_Subscript (hv A s ρ _ E hr hi hs hl fun u h₁ t₁ ρ₁ g₁ s₁ r₁ => ha A _ ρ₁ _ E hr (hi.grow hs g₁) s₁ (hl.grow g₁) fun u₂ h₂ t₂ ρ₂ g₂ s₂ r₂ =>
    hb A _ ρ₂ _ E hr ((hi.grow hs g₁).grow s₁ g₂) s₂ ((hl.grow g₁).grow g₂) fun u₃ h₃ t₃ ρ₃ g₃ s₃ r₃ => by
      cases r₃
      have r₂' := r₂.grow g₃
      cases r₂' with
      | @ref _ D ea =>
        obtain ⟨us, hL, hR⟩ := s₃.cell c D _ ea hc
        refine wpAny_setItem_list hL h0 (by lia) (by have := hR.1; simp; lia) fun h₄ hL₄ hsb => ?_
        have kk : ∀ b o, b ≠ D → h₃.get? b = some o → h₄.get? b = some o := fun b o hb e => (hsb.2 b hb).trans e
        have g₄ : Grow h₃ ρ₃ h₄ ρ₃ := .at fun b o hb e => kk b o (fun q => hb (q ▸ List.mem_of_getElem? ea)) e
        have rx : Rep h₃ ρ₃ u x := (r₁.grow g₂).grow g₃
        have hnew : CellAt w h₄ ρ₃ D (.arr (l.set i.toNat x)) := ⟨us.set i.toNat u, by simpa using hL₄, by
          refine ⟨by simp [hR.1], fun j v y e1 e2 => ?_⟩
          by_cases hj : j = i.toNat
          · subst hj
            rw [List.getElem?_set_self (by have := hR.1; lia)] at e1
            rw [List.getElem?_set_self (by lia)] at e2
            obtain rfl := Option.some.inj e1
            obtain rfl := Option.some.inj e2
            exact rx.grow g₄
          · rw [List.getElem?_set_ne (Ne.symm hj)] at e1 e2
            exact (hR.2 j v y e1 e2).grow g₄⟩
        obtain ⟨g, s₄⟩ := s₃.put ea kk hnew
        have gg := ((g₁.trans g₂ s₂.nodup).trans g₃ s₃.nodup).trans g s₃.nodup
        exact q .next h₄ t₃ ρ₃ gg.toX ⟨s₄, hl.grow gg⟩) hw

theorem Bi.len_list {l : List V} (e : listV σ x = some l) (h : l.length < 2 ^ 62) : BiOk w k (.builtin "len") [x] σ (.int l.length) := fun A s ρ xs Q E hr hi hs hx q => by
  obtain ⟨u, rfl, ru⟩ := hx.one
  obtain ⟨a, us, rfl, hL, hR⟩ := listV_sound e hs ru
  refine PySem.Calls.call_function_entry kind_len plain_len entry_len (args_len1 _) (wpAny_len_body_list hL (by have := hR.1; simp; lia) ?_)
  have := q (.int us.toArray.size (s.toks + 1)) s.heap (s.toks + 1 + 1) (fun _ _ e => e) (by have h1 := hR.1; rw [show us.toArray.size = l.length from by simpa using h1]; exact .int _ _)
  exact this

theorem ints_of {h : Heap} {ρ : List Addr} : ∀ {ns : List Int} {us : List Value}, RepL h ρ us (ns.map .int) → IntsAre us ns
  | [], us, r => by obtain rfl := r.nil_eq; exact .nil
  | n :: ns, us, r => by
    obtain ⟨u, us, rfl, ru, rs⟩ := RepL.head (x := .int n) (xs := ns.map .int) r
    cases ru
    exact .cons _ _ (ints_of rs)
theorem of_ints {h : Heap} {ρ : List Addr} : ∀ {ns : List Int} {us : List Value}, IntsAre us ns → RepL h ρ us (ns.map .int)
  | _, _, .nil => .nil
  | _, _, .cons _ _ r => .cons (.int _ _) (of_ints r)
theorem EV.take {p₂ : Pos} {hi : PySem.Expr} {ls : List Int} {n : Int} (ha : EV w k env ns a Λ σ (.lst (ls.map .int)) σ₁) (hb : EV w k env ns hi Λ σ₁ (.int n) σ₂) (h0 : 0 ≤ n) (hsz : ls.length ≤ 1000) :
    EV w k env ns (.Subscript a (.Slice none (some hi) none p₂) pos) Λ σ (.lst ((ls.take n.toNat).map .int)) σ₂ :=
  fun A s ρ Q E hr hiv hs hl q => sub_slice (ha A s ρ _ E hr hiv hs hl fun u h₁ t₁ ρ₁ g₁ s₁ ra => wpAny_Slice (wpAny_evalPart_none (wpAny_evalPart_some (hb A _ ρ₁ _ E hr (hiv.grow hs g₁) s₁ (hl.grow g₁) fun u₂ h₃ t₃ ρ₃ g₃ s₃ ru => wpAny_evalPart_none (by
    have g := g₁.trans g₃ s₃.nodup
    have ra' := ra.grow g₃
    cases ru
    cases ra' with
    | @lst D us _ hL hD hlen hv =>
      have hI := ints_of (⟨hlen, hv⟩ : RepL h₃ ρ₃ us (ls.map .int))
      have hpick := slice_ints_uptoW hI h0
      have hlen' : us.length = ls.length := by simpa using hlen
      rename_i tn
      generalize hso : ({ cls := .type "slice", data := .fields #[.none, .int n tn, .none] } : Obj) = so
      have kp := push_keeps (h := h₃) so
      refine ⟨"list", _, slot_list_getitem.lookup, (isList_at hL fun o e => kp _ _ e).typeIs, ?_⟩
      have hS : (h₃.push so).IsSliceOf h₃.objs.size .none (.int n tn) .none := by rw [← hso]; exact Heap.IsSliceOf.new ..
      refine wpAny_getItem_list_slice (isList_at hL fun o e => kp _ _ e) hS .none (.int n tn) .none (by simp) ?_ (by rw [sizeLine_eq]; simp; lia)
      generalize hlo : ({ cls := .type "list", data := .seq (slicePick us.toArray none (some n) none) } : Obj) = lo
      have kp₂ : ∀ b o, h₃.get? b = some o → ((h₃.push so).push lo).get? b = some o := fun b o e => push_keeps _ b o (kp b o e)
      have hr' := of_ints (h := (h₃.push so).push lo) (ρ := ρ₃) hpick
      refine q _ ((h₃.push so).push lo) t₃ ρ₃ (g.trans (.keepAll kp₂) s₃.nodup) (s₃.keeps kp₂) (.lst (vs := (slicePick us.toArray none (some n) none).toList) ⟨_, Heap.get?_push_size _ (by rw [← hlo]; rfl), by rw [← hlo], 0, by rw [← hlo]⟩ (fun hm => ?_) hr'.1 hr'.2)
      have h9 := s₃.lt hm
      rw [Heap.size_push] at h9
      exact Nat.lt_irrefl _ (Nat.lt_of_succ_lt h9))))))
end
end Mine
namespace Mine

/-! ## the one class -/
noncomputable def fragOf (P : Params) : List Addr → Frag
  | [] => []
  | a :: r => match (H1 P).get? a with
    | some o => (a, o) :: fragOf P r
    | none => fragOf P r
noncomputable def jsK (w : World) : Frag := fragOf w.params [284, 283, 239, 246, 253, 260, 267, 274, 281]
theorem frag_in {P : Params} : ∀ {l : List Addr} {a : Addr} {o : Obj}, (fragOf P l).lookup a = some o → (H1 P).get? a = some o
  | [], _, _, e => by simp [fragOf] at e
  | b :: r, a, o, e => by
    unfold fragOf at e
    split at e
    · rename_i ob hb
      rw [List.lookup_cons] at e
      split at e
      · rename_i q
        have : a = b := by simpa using q
        rw [this, hb]; exact e
      · exact frag_in e
    · exact frag_in e
theorem jsK_in {w : World} {h : Heap} (i : Inv w h) : (jsK w).In h := fun a o e => i a o (frag_in e)
theorem js_hasDict (w : World) : hasDictIn (jsK w) jsC = true := by kernel_rfl
theorem js_plainOver (w : World) : plainOver (jsK w) jsC = true := by kernel_rfl
theorem js_set (w : World) : findIn (jsK w) (.ref jsC) "__setattr__" = some (some (.builtin "object.__setattr__")) := by kernel_rfl
theorem js_get (w : World) : findIn (jsK w) (.ref jsC) "__getattribute__" = some (some (.builtin "object.__getattribute__")) := by kernel_rfl
theorem js_noget (w : World) : findIn (jsK w) (.ref jsC) "__getattr__" = some none := by kernel_rfl
theorem js_makes (w : World) : makesIn (jsK w) jsC = true := by kernel_rfl
theorem js_init (w : World) : findIn (jsK w) (.ref jsC) "__init__" = some (some (.ref 239)) := by kernel_rfl
theorem js_initF (w : World) : typeIn (jsK w) (.ref 239) = some (.type "function") := by kernel_rfl
noncomputable def FieldName (w : World) (n : Str) : Prop := findIn (jsK w) (.ref jsC) n = some none ∧ takerIn (jsK w) jsC n = some none
theorem f_text (w : World) : FieldName w "text" := ⟨by kernel_rfl, by kernel_rfl⟩
theorem f_at (w : World) : FieldName w "at" := ⟨by kernel_rfl, by kernel_rfl⟩
theorem f_waiting (w : World) : FieldName w "waiting" := ⟨by kernel_rfl, by kernel_rfl⟩
theorem f_keys (w : World) : FieldName w "keys" := ⟨by kernel_rfl, by kernel_rfl⟩
noncomputable def MethName (w : World) (n : Str) (f : Addr) : Prop := findIn (jsK w) (.ref jsC) n = some (some (.ref f)) ∧ typeIn (jsK w) (.ref f) = some (.type "function")
theorem m_skip (w : World) : MethName w "skip" 246 := ⟨by kernel_rfl, by kernel_rfl⟩
theorem m_next (w : World) : MethName w "next_tree" 267 := ⟨by kernel_rfl, by kernel_rfl⟩
theorem m_settled (w : World) : MethName w "settled" 274 := ⟨by kernel_rfl, by kernel_rfl⟩
theorem m_whole (w : World) : MethName w "whole" 281 := ⟨by kernel_rfl, by kernel_rfl⟩

noncomputable def getF (n : Str) (fs : List (Str × V)) : Option V := fs.lookup n
noncomputable def putF (n : Str) (v : V) : List (Str × V) → List (Str × V)
  | [] => [(n, v)]
  | f :: r => if f.1 = n then (n, v) :: r else f :: putF n v r
section
variable {w : World} {h h' : Heap} {ρ ρ' : List Addr}
theorem key_is {x n : Str} {t : Tok} : (Value.str x t).isStr n = decide (x = n) := by
  rw [isStr_of]
  show (x == n) = decide (x = n)
  by_cases h : x = n <;> simp [h]
theorem flds_get : ∀ {es : List DictEntry} {fs : List (Str × V)}, FldsAre h ρ es fs → ∀ n, match fs.lookup n with | some x => ∃ u, getL n es = some (some u) ∧ Rep h ρ u x | none => getL n es = some none
  | [], [], _, n => rfl
  | e :: es, f :: fs, ⟨⟨t, hk⟩, hv, hr⟩, n => by
    have ih := flds_get hr n
    rw [List.lookup_cons]
    have hkey : e.key.isStr n = decide (f.1 = n) := by rw [hk]; exact key_is
    by_cases q : f.1 = n
    · have : (n == f.1) = true := by simp [q]
      rw [this]
      exact ⟨e.val, by simp [getL, hkey, q], hv⟩
    · have : (n == f.1) = false := by simpa using fun e => q e.symm
      rw [this]
      have hnr : e.refKey = false := by unfold DictEntry.refKey; rw [hk]
      have e' : getL n (e :: es) = getL n es := by
        simp [getL, List.find?_cons, hkey, q, hnr]
      rw [e']; exact ih
  | [], _ :: _, x, _ => x.elim
  | _ :: _, [], x, _ => x.elim
theorem flds_put {v : Value} {x : V} {n : Str} {hsh : Int} {t : Tok} (g : ∀ u y, Rep h ρ u y → Rep h' ρ u y) (rv : Rep h' ρ v x) : ∀ {es : List DictEntry} {fs : List (Str × V)}, FldsAre h ρ es fs → FldsAre h' ρ (putL n hsh (.str n t) v es) (putF n x fs)
  | [], [], _ => ⟨⟨t, rfl⟩, rv, trivial⟩
  | e :: es, f :: fs, ⟨⟨t', hk⟩, hv, hr⟩ => by
    have hkey : e.key.isStr n = decide (f.1 = n) := by rw [hk]; exact key_is
    unfold putL putF
    rw [hkey]
    have conv : ∀ {es : List DictEntry} {fs : List (Str × V)}, FldsAre h ρ es fs → FldsAre h' ρ es fs := by
      intro es
      induction es with
      | nil => intro fs hh; cases fs <;> first | trivial | exact hh.elim
      | cons e es ih =>
        intro fs hh
        cases fs with
        | nil => exact hh.elim
        | cons f fs => exact ⟨hh.1, g _ _ hh.2.1, ih hh.2.2⟩
    by_cases q : f.1 = n
    · simp only [q, decide_true, if_true]
      exact ⟨⟨t', by rw [← q]; exact hk⟩, rv, conv hr⟩
    · simp only [q, decide_false, if_false, Bool.false_eq_true]
      exact ⟨⟨t', hk⟩, g _ _ hv, flds_put g rv hr⟩
  | [], _ :: _, x => x.elim
  | _ :: _, [], x => x.elim
theorem putF_keys {n : Str} {x : V} : ∀ {fs : List (Str × V)}, (fs.map (·.1)).Nodup → ((putF n x fs).map (·.1)).Nodup ∧ ∀ y, y ∈ (putF n x fs).map (·.1) → y = n ∨ y ∈ fs.map (·.1)
  | [], _ => ⟨by simp [putF], fun y hy => by simp [putF] at hy; exact .inl hy⟩
  | f :: fs, hn => by
    rw [List.map_cons, List.nodup_cons] at hn
    unfold putF
    by_cases q : f.1 = n
    · rw [if_pos q]
      refine ⟨by rw [List.map_cons, List.nodup_cons]; exact ⟨by rw [← q]; exact hn.1, hn.2⟩, fun y hy => ?_⟩
      rw [List.map_cons] at hy
      cases hy with
      | head => exact .inl rfl
      | tail _ hy => exact .inr (.tail _ hy)
    · rw [if_neg q]
      obtain ⟨i1, i2⟩ := putF_keys (n := n) (x := x) hn.2
      refine ⟨by
        rw [List.map_cons, List.nodup_cons]
        refine ⟨fun hm => ?_, i1⟩
        rcases i2 _ hm with e | e
        · exact q e
        · exact hn.1 e, fun y hy => ?_⟩
      rw [List.map_cons] at hy
      cases hy with
      | head => exact .inr (.head _)
      | tail _ hy =>
        rcases i2 y hy with e | e
        · exact .inl e
        · exact .inr (.tail _ e)
end
end Mine
namespace Mine

noncomputable def fldOf (σ : List Cell) (i : Nat) (n : Str) : Option V := match σ[i]? with | some (.flds fs) => fs.lookup n | _ => none
noncomputable def notG : V → Bool
  | .g _ => false
  | _ => true
theorem handed_of {h : Heap} {ρ : List Addr} {u : Value} {v : V} (r : Rep h ρ u v) (hg : notG v = true) : handedIn u = true := by
  cases r <;> first | rfl | (exact absurd hg Bool.false_ne_true)

section
variable {w : World} {k : Nat} {env : Env} {ns : List Str} {Λ : List (Option V)} {σ σ₁ σ₂ σ₃ : List Cell} {e a b : PySem.Expr} {es : List PySem.Expr} {v x y z : V} {vs : List V} {pos p₂ p₃ xp : Pos}

theorem EV.field {xn n : Str} {i : Nat} (hx : EV w k env ns (.Name xn xp) Λ σ (.obj i) σ₁) (hf : fldOf σ₁ i n = some v) (hn : FieldName w n) (hg : notG v = true) : EV w k env ns (.Attribute (.Name xn xp) n pos) Λ σ v σ₁ :=
  fun A s ρ Q E hr hi hs hl q => Attribute_Name_ (hx A s ρ _ E hr hi hs hl fun u h₁ t₁ ρ₁ g₁ s₁ r₁ => by
    cases r₁ with
    | @obj xa d _ hxo hxρ hd =>
      unfold fldOf at hf
      split at hf
      · rename_i fs hc
        obtain ⟨es, m, ed, hfl, hnd, hk⟩ := s₁.cell i d _ hd hc
        have hget := flds_get hfl n
        rw [hf] at hget
        obtain ⟨u, hu, ru⟩ := hget
        exact get_value (s := { s with heap := h₁, toks := t₁ }) (K := jsK w) (jsK_in (hi.grow hs g₁)) (ox := instObj jsC d) (od := some (dictOf es m)) ⟨hxo, rfl, rfl, ed⟩ (js_get w) (findObj_own (js_hasDict w) hn.1 rfl (by rw [lookIn_dict]; exact hu)) (handed_of ru hg) (q u h₁ _ ρ₁ g₁ s₁ ru)
      · cases hf)

theorem putL_hash {P : Params} {n : Str} {u : Value} {tk : Tok} : ∀ {es : List DictEntry}, (∀ e ∈ es, ∃ x t, e.key = .str x t ∧ e.hash = PyData.keyHash P x) → ∀ e ∈ putL n (PyData.keyHash P n) (.str n tk) u es, ∃ x t, e.key = .str x t ∧ e.hash = PyData.keyHash P x
  | [], _, e, he => by
    simp [putL] at he
    subst he; exact ⟨n, tk, rfl, rfl⟩
  | e0 :: es, h, e, he => by
    unfold putL at he
    split at he
    · cases he with
      | head => exact h e0 (.head _)
      | tail _ he => exact h e (.tail _ he)
    · cases he with
      | head => exact h e0 (.head _)
      | tail _ he => exact putL_hash (fun e he => h e (.tail _ he)) e he
theorem flds_noref {h : Heap} {ρ : List Addr} : ∀ {es : List DictEntry} {fs : List (Str × V)}, FldsAre h ρ es fs → es.any (·.refKey) = false
  | [], [], _ => rfl
  | e :: es, f :: fs, ⟨⟨t, hk⟩, _, hr⟩ => by
    rw [List.any_cons, flds_noref hr]
    unfold DictEntry.refKey; rw [hk]; rfl
  | [], _ :: _, x => x.elim
  | _ :: _, [], x => x.elim
theorem flds_len {h : Heap} {ρ : List Addr} : ∀ {es : List DictEntry} {fs : List (Str × V)}, FldsAre h ρ es fs → es.length = fs.length
  | [], [], _ => rfl
  | e :: es, f :: fs, ⟨_, _, hr⟩ => by simp [flds_len hr]
  | [], _ :: _, x => x.elim
  | _ :: _, [], x => x.elim
theorem putF_len {n : Str} {v : V} : ∀ fs : List (Str × V), (putF n v fs).length ≤ fs.length + 1
  | [] => Nat.le_refl _
  | f :: fs => by
    unfold putF
    split
    · simp
    · simp only [List.length_cons]; have := putF_len (n := n) (v := v) fs; lia

theorem set_sound {A : Around} {s : Shared} {ρ : List Addr} {xa d : Addr} {i : Nat} {fs : List (Str × V)} {n : Str} {u : Value} {Q : Unit → Shared → Prop} {E : Value → Shared → Prop} (hi : Inv w s.heap) (hs : Sto w s.heap ρ σ)
    (hx : s.heap.get? xa = some (instObj jsC d)) (hd : ρ[i]? = some d) (hc : σ[i]? = some (.flds fs)) (hn : FieldName w n) (ru : Rep s.heap ρ u v) (hsz : fs.length ≤ 100)
    (q : ∀ h' tk, Grow s.heap ρ h' ρ → Sto w h' ρ (σ.set i (.flds (putF n v fs))) → Q () { s with heap := h', toks := tk }) : wpAny (model pw w) A (setAttr (.ref xa) n u) Q E s := by
  obtain ⟨es, m, ed, hfl, hnd, hk⟩ := hs.cell i d _ hd hc
  have I : InstAt s.heap xa (instObj jsC d) jsC (some (dictOf es m)) := ⟨hx, rfl, rfl, ed⟩
  refine set_plain (jsK_in hi) I (js_set w) (osa_open (s := { s with toks := s.toks + 1 }) (jsK_in hi) I (js_plainOver w) hn.2 fun b => ?_)
  obtain ⟨cd, hcd, hd'⟩ := any_some (js_hasDict w)
  refine wpAny_bind (wpAny_pure (wpAny_bind (wpAny_bind (wpAny_loadPart hx (wpAny_bind (looks_clsIn (jsK_in hi) hcd _ _ _ _ (fun _ _ e => e) ?_))))))
  rw [hd']
  refine wpAny_pure (a := some d) (wpAny_bind (wpAny_pure (wpAny_bind ?_)))
  unfold nsSet
  refine wpAny_bind (wpAny_bind (wpAny_askSetting (wpAny_pure (wpAny_bind (wpAny_mkText (wpAny_bind (wpAny_loadPart ed ?_)))))))
  dsimp only
  have c : (!es.toArray.any (·.key.isStr n) && es.toArray.any (·.refKey)) = false := by
    rw [← Array.any_toList, ← Array.any_toList]
    simp only [flds_noref hfl, Bool.and_false]
  rw [aRefKeyMayBeTheName_at, c]
  refine wpAny_updatePart ed ?_
  have hnew : (s.heap.update d (Obj.putName n (PyData.keyHash w.params n) (.str n (s.toks + 1)) u)).get? d = some (dictOf (putL n (PyData.keyHash w.params n) (.str n (s.toks + 1)) u es) (putN n es m)) := by
    have := Heap.get?_update_self (Obj.putName n (PyData.keyHash w.params n) (.str n (s.toks + 1)) u) ed (by rw [putName_dict]; rfl)
    rw [putName_dict] at this
    exact this
  have kk : ∀ b o, b ≠ d → s.heap.get? b = some o → (s.heap.update d (Obj.putName n (PyData.keyHash w.params n) (.str n (s.toks + 1)) u)).get? b = some o := fun b o hb e => (Heap.get?_update_ne _ _ _ _ hb).trans e
  have g0 : Grow s.heap ρ (s.heap.update d (Obj.putName n (PyData.keyHash w.params n) (.str n (s.toks + 1)) u)) ρ := .at fun b o hb e => kk b o (fun q => hb (q ▸ List.mem_of_getElem? hd)) e
  have hfl' := flds_put (n := n) (hsh := PyData.keyHash w.params n) (t := s.toks + 1) (fun u y r => Rep.grow r g0) (ru.grow g0) hfl
  refine wpAny_bind (wpAny_lookBehind hnew (pastItsLine_dict (by
    have := flds_len hfl'; have h2 := putF_len (n := n) (v := v) fs
    rw [List.size_toArray, sizeLine_eq]; lia)) ?_)
  obtain ⟨g, s'⟩ := hs.put (new := .flds (putF n v fs)) hd kk ⟨_, _, hnew, hfl', (putF_keys hnd).1, putL_hash hk⟩
  exact wpAny_pure (q _ _ g s')

theorem loc_read {i : Nat} {xn : Str} {A : Around} {s : Shared} {ρ : List Addr} {Q : Value → Shared → Prop} {E : Value → Shared → Prop} (ok : EnvOk env) (e1 : ns[i]? = some xn) (e2 : Λ[i]? = some (some v)) (hd : (xn == ("__debug__" : Str)) = false) (hn : (xn == ("__classdict__" : Str)) = false)
    (hl : Loc s.heap ρ env ns Λ) (q : ∀ u, Rep s.heap ρ u v → Q u s) : wpAny (model pw w) A (eval (.Name xn pos) env) Q E s := by
  obtain ⟨u, hu, r⟩ := hl.var i xn v e1 e2
  refine wpAny_Name ?_ hd
  have q' := q u r
  rcases hu with ⟨hk, m, hm, hv⟩ | ⟨hk, c, hc, hcell⟩
  · exact wpAny_loadName_local ok.k hk hm hv q'
  · rcases hk with hk | hk
    · exact wpAny_loadName_cell ok.k hk hc hcell q'
    · exact wpAny_loadName_free ok.k hk hc hcell q' hn

theorem E1.setattr {xn n : Str} {j i : Nat} {fs : List (Str × V)} (ok : EnvOk env) (h : EV w k env ns e Λ σ v σ₁) (e1 : ns[j]? = some xn) (e2 : Λ[j]? = some (some (.obj i))) (hd : (xn == ("__debug__" : Str)) = false) (hnn : (xn == ("__classdict__" : Str)) = false)
    (hc : σ₁[i]? = some (.flds fs)) (hn : FieldName w n) (hsz : fs.length ≤ 100) (hw : swapsWith e (some (.Attribute (.Name xn xp) n p₂)) pos.line env = pure false) :
    E1 w k env ns (.Assign [.Attribute (.Name xn xp) n p₂] e pos) Λ σ (.next Λ (σ₁.set i (.flds (putF n v fs)))) :=
  fun A s ρ Q E hr hi hs hl q => plainObj_wpAny_Assign_Attribute (h A s ρ _ E hr hi hs hl fun u h₁ t₁ ρ₁ g₁ s₁ r₁ =>
    loc_read (s := { s with heap := h₁, toks := t₁ }) ok e1 e2 hd hnn (hl.grow g₁) fun uo ro => by
      cases ro with
      | @obj xa d _ hxo hxρ hd' =>
        exact set_sound (s := { s with heap := h₁, toks := t₁ }) (hi.grow hs g₁) s₁ hxo hd' hc hn r₁ hsz fun h₂ t₂ g₂ s₂ => q _ h₂ t₂ ρ₁ (g₁.trans g₂ s₂.nodup).toX ⟨s₂, hl.grow (g₁.trans g₂ s₂.nodup)⟩) hw
theorem TG.attr {xn n : Str} {j i : Nat} {fs : List (Str × V)} (ok : EnvOk env) (e1 : ns[j]? = some xn) (e2 : Λ[j]? = some (some (.obj i))) (hd : (xn == ("__debug__" : Str)) = false) (hnn : (xn == ("__classdict__" : Str)) = false)
    (hc : σ[i]? = some (.flds fs)) (hn : FieldName w n) (hsz : fs.length ≤ 100) : TG w k env ns (.Attribute (.Name xn xp) n p₂) v Λ σ Λ (σ.set i (.flds (putF n v fs))) :=
  fun A s ρ u Q E hr hi hs hl r q => by
    rw [assign_Attribute]
    refine wpAny_bind (wpAny_holding (loc_read ok e1 e2 hd hnn hl fun uo ro => wpAny_bind (wpAny_standAt (wpAny_bind (wpAny_holding ?_)))))
    cases ro with
    | @obj xa d _ hxo hxρ hd' =>
      exact set_sound hi hs hxo hd' hc hn r hsz fun h₂ t₂ g₂ s₂ => wpAny_release (q h₂ t₂ g₂.toX s₂ (hl.grow g₂))

end
theorem js_keepC (w : World) : keepIn (jsK w) (.ref jsC) = true := by kernel_rfl
theorem js_keep246 (w : World) : keepIn (jsK w) (.ref 246) = true := by kernel_rfl
theorem js_keep267 (w : World) : keepIn (jsK w) (.ref 267) = true := by kernel_rfl
theorem js_keep274 (w : World) : keepIn (jsK w) (.ref 274) = true := by kernel_rfl
theorem js_keep281 (w : World) : keepIn (jsK w) (.ref 281) = true := by kernel_rfl
end Mine
namespace Mine
section
variable {w : World} {k : Nat} {env : Env} {ns : List Str} {Λ : List (Option V)} {σ σ₁ σ₂ σ₃ : List Cell} {e a b : PySem.Expr} {es : List PySem.Expr} {v x y z : V} {vs : List V} {pos p₂ p₃ xp : Pos}

theorem Sto.newObj {h : Heap} {ρ : List Addr} (s : Sto w h ρ σ) (i : Inv w h) :
    Grow h ρ ((h.push emptyDict).push (instObj jsC h.objs.size)) (ρ ++ [h.objs.size]) ∧ Sto w ((h.push emptyDict).push (instObj jsC h.objs.size)) (ρ ++ [h.objs.size]) (σ ++ [.flds []]) ∧
    Rep ((h.push emptyDict).push (instObj jsC h.objs.size)) (ρ ++ [h.objs.size]) (.ref (h.objs.size + 1)) (.obj σ.length) := by
  have kp : ∀ b o, h.get? b = some o → ((h.push emptyDict).push (instObj jsC h.objs.size)).get? b = some o := fun b o e => push_keeps _ _ _ (push_keeps _ b o e)
  have g : Grow h ρ ((h.push emptyDict).push (instObj jsC h.objs.size)) (ρ ++ [h.objs.size]) := ⟨fun b o _ e => kp b o e, [h.objs.size], rfl, fun a ha => by rw [List.mem_singleton.mp ha]; exact get?_size⟩
  have hx : ((h.push emptyDict).push (instObj jsC h.objs.size)).get? (h.objs.size + 1) = some (instObj jsC h.objs.size) := by heap_get
  have hd : ((h.push emptyDict).push (instObj jsC h.objs.size)).get? h.objs.size = some emptyDict := push_keeps _ _ _ (Heap.get?_push_size _ rfl)
  refine ⟨g, ⟨by simp [s.len], ?_, fun j a c e1 e2 => ?_, fun a ha => ?_⟩, .obj hx (fun hm => ?_) (by rw [← s.len]; simp)⟩
  · rw [List.nodup_append]
    exact ⟨s.nodup, by simp, fun a ha b hb => by rw [List.mem_singleton.mp hb]; exact Nat.ne_of_lt (s.lt ha)⟩
  · by_cases hj : j < ρ.length
    · rw [List.getElem?_append_left hj] at e1
      rw [List.getElem?_append_left (s.len ▸ hj)] at e2
      exact CellAt.keeps (c := c) (s.cell j a c e1 e2) g fun o e => kp _ _ e
    · have hl : j = ρ.length := by
        have := (List.getElem?_eq_some_iff.mp e1).1
        simp at this; lia
      subst hl
      rw [List.getElem?_append_right (Nat.le_refl _)] at e1
      rw [List.getElem?_append_right (by rw [s.len]; exact Nat.le_refl _)] at e2
      simp [s.len] at e1 e2
      subst e1 e2
      exact ⟨[], 0, hd, trivial, by simp, by simp⟩
  · rcases List.mem_append.mp ha with ha | ha
    · exact s.new a ha
    · rw [List.mem_singleton.mp ha]; exact s.base i get?_size
  · rcases List.mem_append.mp hm with hm | hm
    · exact absurd (s.lt hm) (Nat.not_lt.mpr (Nat.le_succ _))
    · exact absurd (List.mem_singleton.mp hm) (Nat.succ_ne_self _)
noncomputable def ClsIs (w : World) (x : Str) : Prop := (H1 w.params).nsMap mainGlobals x = some (.ref jsC)
theorem EV.new {n : Str} (ok : EnvOk env) (hx : env.kindOf n = some .globalImplicit) (hd : (n == ("__debug__" : Str)) = false) (hg : ClsIs w n) (hs' : noStars es = true)
    (ha : EL w (k + 5) env ns es Λ σ vs σ₁) (hc : CallOk w k 239 (.obj σ₁.length :: vs) (σ₁ ++ [.flds []]) .none σ₂) : EV w (k + 5) env ns (.Call (.Name n p₂) es [] pos) Λ σ (.obj σ₁.length) σ₂ :=
  fun A s ρ Q E hr hi hs hl q => Call_Name rfl (Name_function_global ok.k hx (loadGlobal_global (by rw [ok.g]; exact hi.gl) hg (by
    refine callWith_of (P := fun h => (jsK w).In h) (by rw [trees_plain hs' pos]; rfl) (keeps_K (js_keepC w)) (evalArgs_es hs' (ha A s ρ pos _ E hr hi hs hl fun xs h₁ t₁ ρ₁ g₁ s₁ r₁ => ⟨jsK_in (hi.grow hs g₁), wpAny_call ?_⟩))
    have hi₁ := hi.grow hs g₁
    obtain ⟨g₂, s₂, r₂⟩ := s₁.newObj hi₁
    refine make_core (h := h₁) (g := s.gens) (d := s.drawn) (t := t₁) (os := s.os) (makes_of (jsK_in hi₁) (js_makes w)) (looks_findIn (jsK_in hi₁) (js_init w)) (fun self => bind_fn (jsK_in hi₁) self (js_initF w)) (.inl rfl) ?_
    refine hc _ ⟨_, s.gens, s.drawn, t₁, s.os⟩ _ (.ref (h₁.objs.size + 1) :: xs) _ ⟨hr.hh, ?_, ?_⟩ (hi₁.grow s₁ g₂) s₂ (.cons r₂ (r₁.grow g₂)) fun u h₃ t₃ ρ₃ g₃ s₃ r₃ => ?_
    · have := hr.hd; rw [depth_under_kw]; lia
    · have := hr.hu
      have e : (A.under (.builtin "type.__call__" ⟨.ref jsC :: xs, []⟩)).units = A.units + (Code.builtin "type.__call__" ⟨.ref jsC :: xs, []⟩).cUnits := rfl
      have e2 : (Code.builtin "type.__call__" ⟨.ref jsC :: xs, []⟩).cUnits ≤ 40 := by
        have : (Code.builtin "type.__call__" ⟨.ref jsC :: xs, []⟩).cUnits = (Code.builtin "type.__call__" ⟨[], []⟩).cUnits := by kernel_rfl
        rw [this]; decide +kernel
      show (A.under (.builtin "type.__call__" ⟨.ref jsC :: xs, []⟩)).units + 8 * k < 9900
      rw [e]; lia
    · cases r₃
      exact ⟨rfl, q _ h₃ t₃ ρ₃ ((g₁.trans g₂ s₂.nodup).trans g₃ s₃.nodup) s₃ (r₂.grow g₃)⟩)) hd)

theorem IV.range1 {n : Str} {b : Int} (ok : EnvOk env) (hx : env.kindOf n = some .globalImplicit) (hd : (n == ("__debug__" : Str)) = false) (hg : BiIs w n (.type "range")) (hs' : noStars es = true)
    (ha : EL w k env ns es Λ σ [.int b] σ₁) (h3 : -(2 ^ 62) ≤ b) (h4 : b < 2 ^ 62) :
    IV w k env ns (.Call (.Name n p₂) es [] pos) Λ σ ((List.range (b - 0).toNat).map fun (i : Nat) => V.int ((0 : Int) + i)) σ₁ false :=
  fun A s ρ Q E hr hi hs hl q => Call_Name rfl (Name_function_global ok.k hx (loadGlobal_builtin (by rw [ok.g]; exact hi.gl) hg.1 (by rw [ok.b]; exact hi.bl) hg.2 (by
    refine PyProof.Rows.callWith_type (trees_plain hs' pos) (evalArgs_es hs' (ha A s ρ pos _ E hr hi hs hl fun xs h₁ t₁ ρ₁ g₁ s₁ r₁ => ?_))
    obtain ⟨v, rfl, rv⟩ := r₁.one
    cases rv
    refine call_range_1 (wpAny_pyIter_range (IsRange.new ..) (small_one (a := 0) (by decide) (by decide) h3 h4) ?_)
    have hsz : Builtin.Range.rangeSize 0 b 1 = ((b - 0).toNat : Int) := by rw [rangeSize_one]; split <;> lia
    rename_i tb
    generalize hr0 : ({ cls := .type "range", data := .fields #[.int 0 t₁, .int b tb, .int 1 (t₁ + 1)] } : Obj) = ro
    have kp := push_keeps (h := h₁) ro
    refine q _ _ _ ρ₁ (h₁.push ro) [(h₁.push ro).objs.size] (fun i v => ∃ t, v = .int (0 + i * 1) t) (fun i h => IsRangeIter h (h₁.push ro).objs.size (0 + (i : Nat) * 1) (((b - 0).toNat : Int) - (i : Nat)) 1) (g₁.trans (.keepAll kp) s₁.nodup) (s₁.keeps kp)
      ⟨push_keeps _, get?_size, fun A' hA => by simpa using Walks.range (prog := pw) (w := w) hA (h₁.push ro).objs.size 0 1 (b - 0).toNat, ?_, fun i h' st => ⟨_, st, rfl⟩, fun b hb hbI => absurd (List.mem_singleton.mp hb) hbI, fun i u v hu hv => ?_, (fun h => by cases h), fun i h' st => ⟨_, st, by rfl⟩⟩
    · have e1 : ((0 : Int) + ((0 : Nat) : Int) * 1) = 0 := by simp
      have e2 : (((b - 0).toNat : Int) - ((0 : Nat) : Int)) = Builtin.Range.rangeSize 0 b 1 := by rw [hsz]; simp
      rw [e1, e2]
      exact Heap.get?_push_size _ rfl
    · obtain ⟨tk, rfl⟩ := hu
      rw [List.getElem?_map] at hv
      cases q : (List.range (b - 0).toNat)[i]? with
      | none => rw [q] at hv; simp at hv
      | some j =>
        rw [q] at hv
        obtain ⟨hlt, e⟩ := List.getElem?_eq_some_iff.mp q
        simp at e; subst e
        obtain rfl := Option.some.inj hv
        simpa using Rep.int (h := h₁.push ro) (ρ := ρ₁) ((0 : Int) + (i : Int)) tk)) hd)

noncomputable def GlobAt (w : World) (x : Str) (v : V) : Prop :=
  ∃ u, (H1 w.params).nsMap mainGlobals x = some u ∧ ∀ h ρ, (∀ b o, (H1 w.params).get? b = some o → h.get? b = some o) → (∀ b ∈ ρ, (H1 w.params).get? b = none) → Rep h ρ u v
theorem EV.globAt {x : Str} (ok : EnvOk env) (hx : env.kindOf x = some .globalImplicit) (hg : GlobAt w x v) (hd : (x == ("__debug__" : Str)) = false) :
    EV w k env ns (.Name x pos) Λ σ v σ := fun _ s ρ _ _ _ hi hs hl q => by
  obtain ⟨u, hv, hr⟩ := hg
  exact Name_function_global ok.k hx (loadGlobal_global (by rw [ok.g]; exact hi.gl) hv (q u s.heap s.toks ρ .refl hs (hr _ _ hi hs.new))) hd

noncomputable def TB (w : World) (k : Nat) (env : Env) (ns : List Str) (op : BoolOp) (es : List PySem.Expr) (Λ : List (Option V)) (σ : List Cell) (b : Bool) (σ' : List Cell) : Prop :=
  ∀ (A : Around) (s : Shared) (ρ : List Addr) (pos : Pos) (whole : Sem Value) (Q : Bool → Shared → Prop) (E : Value → Shared → Prop), Room A k → Inv w s.heap → Sto w s.heap ρ σ → Loc s.heap ρ env ns Λ →
    (∀ h' tk ρ', Grow s.heap ρ h' ρ' → Sto w h' ρ' σ' → Q b { s with heap := h', toks := tk }) →
    wpAny (model pw w) A (isTrue (.BoolOp op es pos) env whole) Q E s
theorem TV.boolop {op : BoolOp} {t : Bool} (h : TB w k env ns op es Λ σ t σ') : TV w k env ns (.BoolOp op es pos) Λ σ t σ' := fun A s ρ Q E hr hi hs hl q => h A s ρ _ _ Q E hr hi hs hl q
theorem TB.and_nil : TB w k env ns .And [] Λ σ true σ := fun A s ρ pos wh Q E hr hi hs hl q => isTrue_and_nil (q s.heap s.toks ρ .refl hs)
theorem TB.or_nil : TB w k env ns .Or [] Λ σ false σ := fun A s ρ pos wh Q E hr hi hs hl q => isTrue_or_nil (q s.heap s.toks ρ .refl hs)
theorem TB.and_false (ha : TV w k env ns a Λ σ false σ₁) : TB w k env ns .And (a :: es) Λ σ false σ₁ := fun A s ρ pos wh Q E hr hi hs hl q => isTrue_and (ha A s ρ _ E hr hi hs hl fun h₁ t₁ ρ₁ g₁ s₁ => q h₁ t₁ ρ₁ g₁ s₁)
theorem TB.or_true (ha : TV w k env ns a Λ σ true σ₁) : TB w k env ns .Or (a :: es) Λ σ true σ₁ := fun A s ρ pos wh Q E hr hi hs hl q => isTrue_or (ha A s ρ _ E hr hi hs hl fun h₁ t₁ ρ₁ g₁ s₁ => q h₁ t₁ ρ₁ g₁ s₁)
theorem TB.and_true {t : Bool} (ha : TV w k env ns a Λ σ true σ₁) (hb : TB w k env ns .And es Λ σ₁ t σ₂) : TB w k env ns .And (a :: es) Λ σ t σ₂ := fun A s ρ pos wh Q E hr hi hs hl q =>
  isTrue_and (ha A s ρ _ E hr hi hs hl fun h₁ t₁ ρ₁ g₁ s₁ => hb A _ ρ₁ pos wh _ E hr (hi.grow hs g₁) s₁ (hl.grow g₁) fun h₂ t₂ ρ₂ g₂ s₂ => q h₂ t₂ ρ₂ (g₁.trans g₂ s₂.nodup) s₂)
theorem TB.or_false {t : Bool} (ha : TV w k env ns a Λ σ false σ₁) (hb : TB w k env ns .Or es Λ σ₁ t σ₂) : TB w k env ns .Or (a :: es) Λ σ t σ₂ := fun A s ρ pos wh Q E hr hi hs hl q =>
  isTrue_or (ha A s ρ _ E hr hi hs hl fun h₁ t₁ ρ₁ g₁ s₁ => hb A _ ρ₁ pos wh _ E hr (hi.grow hs g₁) s₁ (hl.grow g₁) fun h₂ t₂ ρ₂ g₂ s₂ => q h₂ t₂ ρ₂ (g₁.trans g₂ s₂.nodup) s₂)
end
end Mine
namespace Mine

/-! ## the mini language -/
set_option genSizeOf false
set_option genInjectivity false
mutual
inductive MX where
  | cst (v : V)
  | loc (i : Nat)
  | bin (o : Operator) (a b : MX)
  | neg (a : MX)
  | not (a : MX)
  | cmp (o : CmpOp) (a b : MX)
  | chain (o₁ o₂ : CmpOp) (a b c : MX)
  | and (a b : MX)
  | or (a b : MX)
  | ite (c a b : MX)
  | tup (l : ML)
  | ilst (l : ML)
  | lst
  | arr (l : ML)
  | tab
  | call (f : Nat) (l : ML)
  | bi (f : Nat) (l : ML)
  | item (a b : MX)
  | slice (a : MX) (lo hi : MO)
  | lstrip (a b : MX)
  | join (a b : MX)
  | append (a b : MX)
  | field (i : Nat) (n : Nat)
  | meth (a : MX) (f : Nat) (l : ML)
  | new (l : ML)
  | comp (it : MX) (fr : List Nat) (elt : MX)
inductive ML where
  | nil
  | cons (a : MX) (l : ML)
inductive MO where
  | no
  | yes (a : MX)
end
inductive MG where
  | loc (i : Nat)
  | attr (j n : Nat)
inductive MI where
  | val (e : MX)
  | range (a b : MX)
  | range1 (b : MX)
mutual
inductive MS where
  | set (i : Nat) (e : MX)
  | tset (ts : List MG) (e : MX)
  | swap (is : List Nat) (e : MX)
  | aug (i : Nat) (e : MX)
  | ret (e : MX)
  | expr (e : MX)
  | ite (c : MX) (a b : MB)
  | loop (c : MX) (b : MB)
  | for1 (i : Nat) (it : MI) (b : MB)
  | forN (is : List Nat) (it : MI) (b : MB)
  | setattr (j n : Nat) (e : MX)
  | setitem (a b e : MX)
  | stuck
inductive MB where
  | nil
  | cons (s : MS) (l : MB)
end

noncomputable abbrev Lo := List (Option V)
noncomputable abbrev St := List Cell
noncomputable def ML.len : ML → Nat
  | .nil => 0
  | .cons _ l => l.len + 1

noncomputable def one1 : List V → Option V
  | [x] => some x
  | _ => none
noncomputable def two2 : List V → Option (V × V)
  | [x, y] => some (x, y)
  | _ => none
noncomputable def lenV (σ : St) (x : V) : Option V := if isStr x = true then (asStr x).bind fun l => guardO (decide (l.length < 2 ^ 62)) (some (.int l.length)) else (listV σ x).bind fun l => guardO (decide (l.length < 2 ^ 62)) (some (.int l.length))
noncomputable def ordV (x : V) : Option V := (asStr x).bind fun l => (one? l).map fun c => .int c
noncomputable def chrV (x : V) : Option V := (asInt x).bind fun i => guardO (decide (0 ≤ i ∧ i.natAbs ≤ 0x10FFFF)) (some (.str [i.toNat]))
noncomputable def absV (x : V) : Option V := (asInt x).map fun i => .int (if i < 0 then -i else i)
noncomputable def maxV (p : V × V) : Option V := (asInt p.1).bind fun a => (asInt p.2).map fun b => .int (max a b)
noncomputable def minV (p : V × V) : Option V := (asInt p.1).bind fun a => (asInt p.2).map fun b => .int (min a b)
noncomputable def intV : V → Option V
  | .int i => some (.int i)
  | .bool b => some (.int (if b then 1 else 0))
  | .str l => (PySem.intText? ⟨l.toArray⟩).bind fun n => guardO (decide (l.length ≤ 640)) (some (.int n))
  | _ => none
noncomputable def strV (x : V) : Option V := (asInt x).bind fun i => guardO (decide (i.natAbs.log2 < 1920)) (some (.str (Str.ofString (toString i)).cps.toList))
noncomputable def biV (σ : St) (f : Nat) (vs : List V) : Option V :=
  if f = 0 then (one1 vs).bind (lenV σ) else if f = 1 then (one1 vs).bind ordV else if f = 2 then (one1 vs).bind chrV else if f = 3 then (one1 vs).bind absV else
  if f = 4 then (two2 vs).bind maxV else if f = 5 then (two2 vs).bind minV else if f = 6 then (one1 vs).bind intV else if f = 7 then (one1 vs).bind strV else none

noncomputable def fldName (n : Nat) : Str := if n = 0 then "text" else if n = 1 then "at" else if n = 2 then "waiting" else "keys"
noncomputable def methName (f : Nat) : Str := if f = 246 then "skip" else if f = 267 then "next_tree" else if f = 274 then "settled" else "whole"
noncomputable def seqV : V → Option (List V)
  | .tup l => some l
  | .lst l => some l
  | .str l => some (l.map fun c => .str [c])
  | _ => none
noncomputable def intsV : List V → Option (List Int)
  | [] => some []
  | x :: r => (asInt x).bind fun i => (intsV r).map (i :: ·)
noncomputable def rfV : Nat → V → Bool
  | 0, x => scal x
  | n + 1, x => match x with
    | .tup l => l.all (rfV n)
    | .lst l => l.all (rfV n)
    | x => scal x
noncomputable def lget (Λ : Lo) (i : Nat) : Option V := (Λ[i]?).join
theorem lget_is {Λ : Lo} {i : Nat} {v : V} (h : lget Λ i = some v) : Λ[i]? = some (some v) := Option.join_eq_some_iff.mp h
noncomputable def frOk (Λ : Lo) (fr : List Nat) : Bool := fr.all fun j => (lget Λ j).any (rfV 3)
noncomputable def compOk (Vs Ys : List V) : Bool := Vs.all (rfV 3) && Ys.all scal && (Vs.all scal || decide (Vs.length ≤ 1)) && decide (Vs.length ≤ 1000)
noncomputable def mapO {α β : Type} (f : α → Option β) : List α → Option (List β)
  | [] => some []
  | x :: r => (f x).bind fun y => (mapO f r).bind fun l => some (y :: l)
noncomputable def takeV (l : List V) (lo hi : Option Int) : Option V := if lo = none then hi.bind fun n => (intsV l).bind fun ls => guardO (decide (0 ≤ n ∧ ls.length ≤ 1000)) (some (.lst ((ls.take n.toNat).map .int))) else none
noncomputable def sliceV (x : V) (lo hi : Option Int) : Option V := match x with
  | .str l => guardO (loOk lo && loOk hi && decide (l.length ≤ 1000)) (some (.str (sliceN l lo hi)))
  | .lst l => takeV l lo hi
  | _ => none
noncomputable def asFlds : Cell → Option (List (Str × V))
  | .flds fs => some fs
  | _ => none
noncomputable def asArr : Cell → Option (List V)
  | .arr l => some l
  | _ => none
noncomputable def asList : Cell → Option (List V)
  | .list l => some l
  | _ => none
noncomputable def fldsAt (σ : St) (c : Nat) : Option (List (Str × V)) := (σ[c]?).bind asFlds
noncomputable def arrAt (σ : St) (c : Nat) : Option (List V) := (σ[c]?).bind asArr
noncomputable def listAt (σ : St) (c : Nat) : Option (List V) := (σ[c]?).bind asList
theorem fldsAt_is {σ : St} {c : Nat} {l : List (Str × V)} (h : fldsAt σ c = some l) : σ[c]? = some (.flds l) := by
  obtain ⟨x, hx, h⟩ := Option.bind_eq_some_iff.mp h
  cases x <;> cases h
  exact hx
theorem arrAt_is {σ : St} {c : Nat} {l : List V} (h : arrAt σ c = some l) : σ[c]? = some (.arr l) := by
  obtain ⟨x, hx, h⟩ := Option.bind_eq_some_iff.mp h
  cases x <;> cases h
  exact hx
theorem listAt_is {σ : St} {c : Nat} {l : List V} (h : listAt σ c = some l) : σ[c]? = some (.list l) := by
  obtain ⟨x, hx, h⟩ := Option.bind_eq_some_iff.mp h
  cases x <;> cases h
  exact hx
noncomputable def ifB {α : Type} (t : Bool) (a b : α) : α := if t = true then a else b

section
variable (C : Nat → List V → St → Option (V × St))
mutual
noncomputable def evalM : MX → Lo → St → Option (V × St)
  | .cst v, _, σ => some (v, σ)
  | .loc i, Λ, σ => (lget Λ i).map fun v => (v, σ)
  | .bin o a b, Λ, σ => (evalM a Λ σ).bind fun x => (evalM b Λ x.2).bind fun y => (binV o x.1 y.1).map fun z => (z, y.2)
  | .neg a, Λ, σ => (evalM a Λ σ).bind fun x => (asInt x.1).map fun i => (.int (-i), x.2)
  | .not a, Λ, σ => (evalM a Λ σ).bind fun x => (truthV x.1).map fun t => (.bool (!t), x.2)
  | .cmp o a b, Λ, σ => (evalM a Λ σ).bind fun x => (evalM b Λ x.2).bind fun y => (cmpS y.2 o x.1 y.1).map fun t => (.bool t, y.2)
  | .chain o₁ o₂ a b c, Λ, σ => (evalM a Λ σ).bind fun x => (evalM b Λ x.2).bind fun y => (cmpV o₁ x.1 y.1).bind fun t =>
      ifB t ((evalM c Λ y.2).bind fun z => (cmpV o₂ y.1 z.1).map fun u => (.bool u, z.2)) (some (.bool false, y.2))
  | .and a b, Λ, σ => (evalM a Λ σ).bind fun x => (asBool x.1).bind fun t => ifB t (evalM b Λ x.2) (some (.bool false, x.2))
  | .or a b, Λ, σ => (evalM a Λ σ).bind fun x => (asBool x.1).bind fun t => ifB t (some (.bool true, x.2)) (evalM b Λ x.2)
  | .ite c a b, Λ, σ => (evalM c Λ σ).bind fun x => (truthV x.1).bind fun t => ifB t (evalM a Λ x.2) (evalM b Λ x.2)
  | .tup l, Λ, σ => (evalL l Λ σ).map fun r => (.tup r.1, r.2)
  | .ilst l, Λ, σ => (evalL l Λ σ).map fun r => (.lst r.1, r.2)
  | .lst, _, σ => some (.ref σ.length, σ ++ [.list []])
  | .arr l, Λ, σ => (evalL l Λ σ).map fun r => (.ref r.2.length, r.2 ++ [.arr r.1])
  | .tab, _, σ => some (.ref σ.length, σ ++ [.tab])
  | .call f l, Λ, σ => (evalL l Λ σ).bind fun r => C f r.1 r.2
  | .bi f l, Λ, σ => (evalL l Λ σ).bind fun r => (biV r.2 f r.1).map fun z => (z, r.2)
  | .item a b, Λ, σ => (evalM a Λ σ).bind fun x => (evalM b Λ x.2).bind fun y => (itemV y.2 x.1 y.1).map fun z => (z, y.2)
  | .slice a lo hi, Λ, σ => (evalM a Λ σ).bind fun x => (evalO lo Λ x.2).bind fun p => (evalO hi Λ p.2).bind fun q => (sliceV x.1 p.1 q.1).map fun z => (z, q.2)
  | .lstrip a b, Λ, σ => (evalM a Λ σ).bind fun x => (asStr x.1).bind fun l => (evalM b Λ x.2).bind fun y => (asStr y.1).bind fun m =>
      guardO (decide (l.length ≤ 1000)) (some (.str (Txt.lstripChars ⟨l.toArray⟩ ⟨m.toArray⟩).cps.toList, y.2))
  | .join a b, Λ, σ => (evalM a Λ σ).bind fun x => (asStr x.1).bind fun sep => (evalM b Λ x.2).bind fun y => ((listV y.2 y.1).bind strsOf).bind fun ls => guardO (joinFits sep ls) (some (.str (joinL sep ls), y.2))
  | .append a b, Λ, σ => (evalM a Λ σ).bind fun x => (asRef x.1).bind fun c => (listAt x.2 c).bind fun _ => (evalM b Λ x.2).bind fun y => (listAt y.2 c).bind fun l =>
      guardO (decide (l.length ≤ 1000)) (some (.none, y.2.set c (.list (l ++ [y.1]))))
  | .field i n, Λ, σ => (lget Λ i).bind fun o => (asObj o).bind fun c => (fldOf σ c (fldName n)).bind fun v => guardO (notG v) (some (v, σ))
  | .meth a f l, Λ, σ => (evalM a Λ σ).bind fun x => (asObj x.1).bind fun c => (fldsAt x.2 c).bind fun fs => guardO (fs.lookup (methName f)).isNone ((evalL l Λ x.2).bind fun r => C f (.obj c :: r.1) r.2)
  | .new l, Λ, σ => (evalL l Λ σ).bind fun r => (C 239 (.obj r.2.length :: r.1) (r.2 ++ [.flds []])).bind fun y => guardO (isNoneB y.1) (some (.obj r.2.length, y.2))
  | .comp it fr elt, Λ, σ => (evalM it Λ σ).bind fun x => (seqV x.1).bind fun Vs => (mapO (fun u => (evalM elt (some u :: fr.map (lget Λ)) []).map (·.1)) Vs).bind fun Ys =>
      guardO (frOk Λ fr && compOk Vs Ys) (some (.lst Ys, x.2))
noncomputable def evalL : ML → Lo → St → Option (List V × St)
  | .nil, _, σ => some ([], σ)
  | .cons a l, Λ, σ => (evalM a Λ σ).bind fun x => (evalL l Λ x.2).map fun r => (x.1 :: r.1, r.2)
noncomputable def evalO : MO → Lo → St → Option (Option Int × St)
  | .no, _, σ => some (none, σ)
  | .yes a, Λ, σ => (evalM a Λ σ).bind fun x => (asInt x.1).map fun i => (some i, x.2)
end

noncomputable def setG : List MG → List V → Lo → St → Option (Lo × St)
  | [], vs, Λ, σ => guardO vs.isEmpty (some (Λ, σ))
  | t :: ts, vs, Λ, σ => match vs with
    | [] => none
    | v :: vs => match t with
      | .loc i => setG ts vs (Λ.set i (some v)) σ
      | .attr j n => (lget Λ j).bind fun o => (asObj o).bind fun c => (fldsAt σ c).bind fun fs => guardO (decide (fs.length ≤ 100)) (setG ts vs Λ (σ.set c (.flds (putF (fldName n) v fs))))
noncomputable def setN : List Nat → List V → Lo → Option Lo
  | [], vs, Λ => guardO vs.isEmpty (some Λ)
  | i :: is, vs, Λ => match vs with
    | [] => none
    | v :: vs => setN is vs (Λ.set i (some v))
noncomputable def small62 (i : Int) : Bool := decide (i.natAbs ≤ 1000000)
noncomputable def iterM : MI → Lo → St → Option (List V × St)
  | .val e, Λ, σ => (evalM C e Λ σ).bind fun x => (seqV x.1).map fun l => (l, x.2)
  | .range a b, Λ, σ => (evalM C a Λ σ).bind fun x => (asInt x.1).bind fun i => (evalM C b Λ x.2).bind fun y => (asInt y.1).bind fun j =>
      guardO (small62 i && small62 j) (some ((List.range (j - i).toNat).map fun (n : Nat) => V.int (i + n), y.2))
  | .range1 b, Λ, σ => (evalM C b Λ σ).bind fun y => (asInt y.1).bind fun j => guardO (small62 j) (some ((List.range (j - 0).toNat).map fun (n : Nat) => V.int ((0 : Int) + n), y.2))
noncomputable def Out.thn (o : Out) (f : Lo → St → Option Out) : Option Out := match o with
  | .next Λ σ => f Λ σ
  | .ret v σ => some (.ret v σ)
noncomputable def forM (asg : V → Lo → Option Lo) (body : Lo → St → Option Out) : List V → Lo → St → Option Out
  | [], Λ, σ => some (.next Λ σ)
  | v :: vs, Λ, σ => (asg v Λ).bind fun Λ₁ => (body Λ₁ σ).bind fun o => o.thn (forM asg body vs)
noncomputable def whileM (test : Lo → St → Option (V × St)) (body : Lo → St → Option Out) : Nat → Lo → St → Option Out
  | 0, _, _ => none
  | n + 1, Λ, σ => (test Λ σ).bind fun x => (truthV x.1).bind fun t => ifB t ((body Λ x.2).bind fun o => o.thn (whileM test body n)) (some (.next Λ x.2))
variable (F : Nat)
mutual
noncomputable def execM : MS → Lo → St → Option Out
  | .set i e, Λ, σ => (evalM C e Λ σ).map fun x => .next (Λ.set i (some x.1)) x.2
  | .tset ts e, Λ, σ => (evalM C e Λ σ).bind fun x => (asTup x.1).bind fun vs => (setG ts vs Λ x.2).map fun r => .next r.1 r.2
  | .swap is e, Λ, σ => (evalM C e Λ σ).bind fun x => (asTup x.1).bind fun vs => guardO (decide (is.length = vs.length)) ((setN is.reverse vs.reverse Λ).map fun r => .next r x.2)
  | .aug i e, Λ, σ => (lget Λ i).bind fun u => (asInt u).bind fun a => (evalM C e Λ σ).bind fun x => (asInt x.1).map fun b => .next (Λ.set i (some (.int (a + b)))) x.2
  | .ret e, Λ, σ => (evalM C e Λ σ).map fun x => .ret x.1 x.2
  | .expr e, Λ, σ => (evalM C e Λ σ).bind fun x => guardO (isNoneB x.1) (some (.next Λ x.2))
  | .ite c a b, Λ, σ => (evalM C c Λ σ).bind fun x => (truthV x.1).bind fun t => ifB t (execB a Λ x.2) (execB b Λ x.2)
  | .loop c b, Λ, σ => whileM (evalM C c) (execB b) F Λ σ
  | .for1 i it b, Λ, σ => (iterM C it Λ σ).bind fun x => forM (fun v Λ => some (Λ.set i (some v))) (execB b) x.1 Λ x.2
  | .forN is it b, Λ, σ => (iterM C it Λ σ).bind fun x => forM (fun v Λ => (asTup v).bind fun xs => setN is xs Λ) (execB b) x.1 Λ x.2
  | .setattr j n e, Λ, σ => (evalM C e Λ σ).bind fun x => (lget Λ j).bind fun o => (asObj o).bind fun c => (fldsAt x.2 c).bind fun fs =>
      guardO (decide (fs.length ≤ 100)) (some (.next Λ (x.2.set c (.flds (putF (fldName n) x.1 fs)))))
  | .setitem a b e, Λ, σ => (evalM C e Λ σ).bind fun x => (evalM C a Λ x.2).bind fun y => (asRef y.1).bind fun c => (evalM C b Λ y.2).bind fun z => (asInt z.1).bind fun i => (arrAt z.2 c).bind fun l =>
      guardO (decide (0 ≤ i ∧ i < l.length ∧ l.length ≤ 1000)) (some (.next Λ (z.2.set c (.arr (l.set i.toNat x.1)))))
  | .stuck, _, _ => none
noncomputable def execB : MB → Lo → St → Option Out
  | .nil, Λ, σ => some (.next Λ σ)
  | .cons s l, Λ, σ => (execM s Λ σ).bind fun o => o.thn (execB l)
end
end

structure Fn where
  np : Nat
  nn : Nat
  body : MB
noncomputable def callM (prog : Nat → Option Fn) (F : Nat) : Nat → Nat → List V → St → Option (V × St)
  | 0, _, _, _ => none
  | d + 1, a, args, σ => (prog a).bind fun f => guardO (decide (args.length = f.np)) ((execB (callM prog F d) F f.body (start args f.nn) σ).map Out.val)
end Mine
namespace Mine

/-! ## from the program's terms to the mini language -/
structure Ctx where
  ns : List Str
  sc : Scope
noncomputable def ix (ns : List Str) (x : Str) : Option Nat := (List.range ns.length).find? fun i => decide (ns[i]? = some x)
theorem ix_at {ns : List Str} {x : Str} {i : Nat} (h : ix ns x = some i) : ns[i]? = some x := by
  have := List.find?_some h
  simpa using this
theorem ix_lt {ns : List Str} {x : Str} {i : Nat} (h : ix ns x = some i) : i < ns.length := (List.getElem?_eq_some_iff.mp (ix_at h)).1
noncomputable def badName (x : Str) : Bool := x == ("__debug__" : Str) || x == ("__classdict__" : Str)
noncomputable def dictG (n : Nat) : V := .g (.ref n)
noncomputable def glTab : List (Str × V) := [
  ("SIGN_BIT", .int 9223372036854775808), ("FRACTION_BITS", .int 52), ("FRACTION_MASK", .int 4503599627370495), ("HIDDEN_BIT_dbits", .int 4503599627370496), ("EXPONENT_MASK", .int 2047),
  ("EXPONENT_SHIFT", .int 1075), ("LEAST_POWER_dbits", .int (-1074)), ("ZERO", .int 0), ("NEG_ZERO", .int 9223372036854775808), ("INF", .int 9218868437227405312), ("FARTHEST", .int 400),
  ("JSON_BLANKS", .str [32, 9, 10, 13]), ("JSON_DIGITS", .str [48, 49, 50, 51, 52, 53, 54, 55, 56, 57]),
  ("JSON_HEX", .str [48, 49, 50, 51, 52, 53, 54, 55, 56, 57, 97, 98, 99, 100, 101, 102, 65, 66, 67, 68, 69, 70]), ("JSON_ESCAPES", .g (.ref 168)),
  ("LEAST_POWER_numshow", .int (-1074)), ("HIDDEN_BIT_numshow", .int 4503599627370496), ("JSON_SMALL_HEX", .str [48, 49, 50, 51, 52, 53, 54, 55, 56, 57, 97, 98, 99, 100, 101, 102]), ("JSON_SHORT", .g (.ref 366))]
noncomputable def wordsV : V := .tup [.tup [.str [110, 117, 108, 108], .tup [.str [110, 117, 108, 108], .none]], .tup [.str [116, 114, 117, 101], .tup [.str [98, 111, 111, 108], .bool true]], .tup [.str [102, 97, 108, 115, 101], .tup [.str [98, 111, 111, 108], .bool false]]]
noncomputable def fnTab : List (Str × Addr) := ([
  ("width", 21), ("pack", 28), ("is_negative", 35), ("is_nan", 42), ("is_inf", 49), ("is_finite", 56), ("is_zero", 63), ("signed", 70), ("parts", 77), ("quotient", 84), ("round_ratio", 91), ("assembled", 98)] : List (Str × Addr)) ++ ([
  ("figure_of", 105), ("run_end", 112), ("worth", 119), ("from_decimal", 126), ("sign_at", 133), ("turned", 140), ("exponent_at", 147), ("json_sign", 190), ("skip_json_blanks", 197), ("json_number", 204)] : List (Str × Addr)) ++ ([
  ("json_hex_unit", 211), ("json_string", 218), ("json_plain", 225), ("read_json", 295), ("scaled", 302), ("decimal_place", 309), ("first_place", 316), ("shortest", 323), ("last_figure", 330), ("signed_exponent", 337)] : List (Str × Addr)) ++ ([
  ("with_exponent", 344), ("laid_out", 351), ("without_figures", 358), ("show", 365), ("json_quoted_sign", 373), ("json_quoted", 378), ("json_number_text", 385), ("json_plain_text", 392), ("json_rows", 399), ("json_laid", 404)] : List (Str × Addr)) ++ ([
  ("show_json", 411), ("_law_signs", 418), ("_law_short", 425), ("_law_next", 432), ("_law_double", 439), ("_law_number", 446), ("_law_number_right", 453), ("_law_string", 458)] : List (Str × Addr))
noncomputable def biTab : List (Str × Nat × Value) := [("len", 0, .builtin "len"), ("ord", 1, .builtin "ord"), ("chr", 2, .builtin "chr"), ("abs", 3, .builtin "abs"), ("max", 4, .builtin "max"), ("min", 5, .builtin "min"), ("int", 6, .type "int"), ("str", 7, .type "str")]
noncomputable def methOf (m : Str) : Option Nat := if m = "skip" then some 246 else if m = "next_tree" then some 267 else if m = "settled" then some 274 else if m = "whole" then some 281 else none
noncomputable def fldOf? (m : Str) : Option Nat := if m = "text" then some 0 else if m = "at" then some 1 else if m = "waiting" then some 2 else if m = "keys" then some 3 else none
noncomputable def isName : PySem.Expr → Bool
  | .Name _ _ => true
  | _ => false
noncomputable def baseForm : PySem.Expr → Bool
  | .Name _ _ => true
  | .Call f args kws _ => isName f && !args.isEmpty && kws.isEmpty
  | _ => false
noncomputable def boolX (op : BoolOp) : List MX → Option MX
  | [] => none
  | a :: r => if r.isEmpty = true then some a else (boolX op r).map fun b => match op with | .And => .and a b | .Or => .or a b
noncomputable def ML.of : List MX → ML
  | [] => .nil
  | a :: r => .cons a (ML.of r)
noncomputable def cConst : Const → Option MX
  | .none => some (.cst .none)
  | .bool b => some (.cst (.bool b))
  | .int i => some (.cst (.int i))
  | .str x => some (.cst (.str x.cps.toList))
  | _ => none
noncomputable def isLoc (k : Option NameKind) : Bool := decide (k = some .local) || decide (k = some .cell) || decide (k = some .free)
noncomputable def cName (c : Ctx) (x : Str) : Option MX := guardO (!badName x)
  (if isLoc (c.sc.names.lookup x) = true then (ix c.ns x).map .loc else guardO (decide (c.sc.names.lookup x = some .globalImplicit)) (if x = "JSON_WORDS" then some (.cst wordsV) else (glTab.lookup x).map .cst))
noncomputable def frsOf (c : Ctx) (scope : Scope) : List (Str × Nat) := scope.names.filterMap fun y => if y.2 = .free then (ix c.ns y.1).map fun i => (y.1, i) else none
noncomputable def notSet : PySem.Expr → Bool
  | .Set .. => false
  | _ => true
noncomputable def compChk (c : Ctx) (scope : Scope) (x : Str) (frs : List (Str × Nat)) (iter : PySem.Expr) : Bool :=
  decide (scope.kind = .function) && scope.names.all (fun y => decide (y.2 ≠ .local) || decide (scope.names.lookup y.1 = some .local)) && scope.names.all (fun y => decide (y.2 ≠ .cell)) &&
  decide (scope.names.lookup x = some .local) && scope.names.all (fun y => decide (y.2 ≠ .free) || decide (c.sc.names.lookup y.1 = some .cell)) &&
  frs.all (fun f => decide (scope.names.lookup f.1 = some .free) && decide (c.ns[f.2]? = some f.1)) && notSet iter
noncomputable def isZero : PySem.Expr → Bool
  | .Constant (.int 0) _ _ => true
  | _ => false
noncomputable def isComp : PySem.Expr → Bool
  | .ListComp .. => true
  | _ => false
noncomputable def zeroFirst (es : List PySem.Expr) : Bool := decide (es.length = 2) && (es.head?.any isZero) && (es.getLast?.any isComp)
noncomputable def cMeth (m : Str) (a b : MX) : Option MX := if m = "lstrip" then some (.lstrip a b) else if m = "join" then some (.join a b) else if m = "append" then some (.append a b) else none
noncomputable def cCall (c : Ctx) (x : Str) (l : ML) : Option MX := guardO (!badName x && decide (c.sc.names.lookup x = some .globalImplicit))
  (if (fnTab.lookup x).isSome = true then (fnTab.lookup x).map fun a => .call a l else if (biTab.lookup x).isSome = true then (biTab.lookup x).map fun j => .bi j.1 l else guardO (decide (x = "JsonReader")) (some (.new l)))
noncomputable def opt1 {α β : Type} (f : α → β) (a : Option α) : Option β := match a with | some x => some (f x) | none => none
noncomputable def opt2 {α β γ : Type} (f : α → β → γ) (a : Option α) (b : Option β) : Option γ := match a, b with | some x, some y => some (f x y) | _, _ => none
noncomputable def opt3 {α β γ δ : Type} (f : α → β → γ → δ) (a : Option α) (b : Option β) (c : Option γ) : Option δ := match a, b, c with | some x, some y, some z => some (f x y z) | _, _, _ => none
theorem opt1_is {α β : Type} {f : α → β} {a : Option α} {r : β} (h : opt1 f a = some r) : ∃ x, a = some x ∧ r = f x := by cases a <;> simp [opt1] at h; exact ⟨_, rfl, h.symm⟩
theorem opt2_is {α β γ : Type} {f : α → β → γ} {a : Option α} {b : Option β} {r : γ} (h : opt2 f a b = some r) : ∃ x y, a = some x ∧ b = some y ∧ r = f x y := by cases a <;> cases b <;> first | (exact no_some h) | (exact ⟨_, _, rfl, rfl, (Option.some.inj h).symm⟩)
theorem opt3_is {α β γ δ : Type} {f : α → β → γ → δ} {a : Option α} {b : Option β} {c : Option γ} {r : δ} (h : opt3 f a b c = some r) : ∃ x y z, a = some x ∧ b = some y ∧ c = some z ∧ r = f x y z := by cases a <;> cases b <;> cases c <;> first | (exact no_some h) | (exact ⟨_, _, _, rfl, rfl, rfl, (Option.some.inj h).symm⟩)

section
variable (R : Ctx → Bool → PySem.Expr → Option MX)
noncomputable def cCmp (c : Ctx) (a : PySem.Expr) (ops : List CmpOp) (bs : List PySem.Expr) : Option MX := match ops, bs with
  | [o], [b] => guardO (!behindInMarks o b) (opt2 (.cmp o) (R c false a) (R c false b))
  | [o₁, o₂], [b, d] => guardO (!lastMarks [o₁, o₂] [b, d]) (opt3 (.chain o₁ o₂) (R c false a) (R c false b) (R c false d))
  | _, _ => none
noncomputable def cBool2 (c : Ctx) (op : BoolOp) (es : List PySem.Expr) : Option MX := match es with
  | [a, b] => opt2 (match op with | .And => .and | .Or => .or) (R c false a) (R c false b)
  | _ => none
noncomputable def cList (c : Ctx) (es : List PySem.Expr) : Option MX := if es.isEmpty = true then some .lst else
  guardO (decide (es.length ≤ 1000)) (opt1 (fun l => if zeroFirst es = true then .arr (.of l) else .ilst (.of l)) (mapO (R c false) es))
noncomputable def cMethod (c : Ctx) (a : PySem.Expr) (m : Str) (ap pos : Pos) (args : List PySem.Expr) : Option MX :=
  if (methOf m).isSome = true then guardO (baseForm a && (ap.endLine == pos.line) && decide (args.length < 20)) (opt3 (fun f a l => .meth a f (.of l)) (methOf m) (R c false a) (mapO (R c false) args))
  else match args with
    | [b] => guardO (baseOk a && (ap.endLine == pos.line)) ((opt2 (cMeth m) (R c false a) (R c false b)).join)
    | _ => none
noncomputable def cCallF (c : Ctx) (f : PySem.Expr) (args : List PySem.Expr) (kws : List Keyword) (pos : Pos) : Option MX := guardO kws.isEmpty (match f with
  | .Name x _ => (mapO (R c false) args).bind fun l => cCall c x (.of l)
  | .Attribute a m ap => cMethod R c a m ap pos args
  | _ => none)
noncomputable def cPart (c : Ctx) : Option PySem.Expr → Option MO
  | none => some .no
  | some e => opt1 .yes (R c false e)
noncomputable def cSub (c : Ctx) (a s : PySem.Expr) : Option MX := match s with
  | .Slice lo hi st _ => guardO st.isNone (opt3 .slice (R c false a) (cPart R c lo) (cPart R c hi))
  | s => opt2 .item (R c false a) (R c false s)
noncomputable def nameOf : PySem.Expr → Option Str
  | .Name x _ => some x
  | _ => none
noncomputable def cAttr (c : Ctx) (a : PySem.Expr) (m : Str) : Option MX := (nameOf a).bind fun x => guardO (!badName x) (opt2 .field (ix c.ns x) (fldOf? m))
noncomputable def cComp (c : Ctx) (elt : PySem.Expr) (gens : List Comprehension) (scope : Scope) : Option MX := match gens with
  | [⟨t, iter, ifs, z⟩] => (nameOf t).bind fun x => guardO (decide (z = 0) && ifs.isEmpty && compChk c scope x (frsOf c scope) iter)
      (opt2 (fun it e => .comp it ((frsOf c scope).map (·.2)) e) (R c false iter) (R ⟨x :: (frsOf c scope).map (·.1), relS scope c.sc⟩ false elt))
  | _ => none
noncomputable def stepV (c : Ctx) (e : PySem.Expr) : Option MX := match e with
  | .Constant k _ _ => cConst k
  | .Name x _ => cName c x
  | .BinOp a o b _ => opt2 (.bin o) (R c false a) (R c false b)
  | .UnaryOp op a _ => guardO (decide (op = .USub)) (opt1 .neg (R c false a))
  | .Compare a ops bs _ => cCmp R c a ops bs
  | .BoolOp op es _ => cBool2 R c op es
  | .IfExp t a b _ => opt3 .ite (R c true t) (R c false a) (R c false b)
  | .Tuple es _ _ => guardO (decide (es.length ≤ 1000)) (opt1 (fun l => .tup (.of l)) (mapO (R c false) es))
  | .List es _ => cList R c es
  | .Dict keys values _ => guardO (tabIs keys values shortTab && keys.all (·.isSome) && decide (keys.length = values.length) && decide (keys.length ≠ 0) && decide (keys.length ≤ 15)) (some .tab)
  | .Call f args kws pos => cCallF R c f args kws pos
  | .Subscript a s _ => cSub R c a s
  | .Attribute a m _ => cAttr c a m
  | .ListComp elt gens scope _ => cComp R c elt gens scope
  | _ => none
noncomputable def stepT (c : Ctx) (e : PySem.Expr) : Option MX := match e with
  | .UnaryOp op a _ => if op = .Not then opt1 .not (R c true a) else R c false e
  | .BoolOp op es _ => (mapO (R c true) es).bind (boolX op)
  | .IfExp .. => none
  | e => R c false e
end
noncomputable def cX : Nat → Ctx → Bool → PySem.Expr → Option MX
  | 0, _, _, _ => none
  | n + 1, c, t, e => ifB t (stepT (cX n) c e) (stepV (cX n) c e)

noncomputable def notComp : PySem.Expr → Bool
  | .ListComp .. => false
  | .SetComp .. => false
  | .DictComp .. => false
  | _ => true
noncomputable def cSlot (c : Ctx) (x : Str) : Option Nat := guardO ((decide (c.sc.names.lookup x = some .local) || decide (c.sc.names.lookup x = some .cell)) && !badName x) (ix c.ns x)
noncomputable def cTarget (c : Ctx) (e : PySem.Expr) : Option MG := match e with
  | .Name x _ => opt1 .loc (cSlot c x)
  | .Attribute a m _ => (nameOf a).bind fun x => guardO (!badName x) (opt2 .attr (ix c.ns x) (fldOf? m))
  | _ => none
noncomputable def cNames (c : Ctx) (e : PySem.Expr) : Option Nat := (nameOf e).bind (cSlot c)
noncomputable def swapOf (sc : Scope) (ts vs : List PySem.Expr) : Option (Option (List Str)) :=
  if !(ts.length == 2 || ts.length == 3) || vs.length != ts.length then some none else
  if vs.any (fun e => !notStar e) then some none else
  let line := (ts.head?.map (·.pos.line)).getD 0
  let names := ts.filterMap fun
    | .Name id pos => if sc.names.lookup id == some .local && pos.line == line then some id else none
    | _ => none
  if names.length != ts.length || names.eraseDups.length != names.length then some none else
  if vs.all (foldedForSure 8) then some none else
  if vs.all (constantsAlone 8) then none else
  some (some names)
noncomputable def swapFor (sc : Scope) (ts : List PySem.Expr) : PySem.Expr → Option (Option (List Str))
  | .Tuple vs _ _ => swapOf sc ts vs
  | _ => some none
noncomputable def cRange (c : Ctx) (n : Nat) (args : List PySem.Expr) : Option MI := match args with
  | [a, b] => opt2 .range (cX n c false a) (cX n c false b)
  | [b] => opt1 .range1 (cX n c false b)
  | _ => none
noncomputable def isRange (c : Ctx) : PySem.Expr → Bool
  | .Call f _ kws _ => decide (nameOf f = some "range") && kws.isEmpty && decide (c.sc.names.lookup ("range" : Str) = some .globalImplicit)
  | _ => false
noncomputable def argsOf : PySem.Expr → List PySem.Expr
  | .Call _ args _ _ => args
  | _ => []
noncomputable def cIter (n : Nat) (c : Ctx) (e : PySem.Expr) : Option MI := if isRange c e = true then cRange c n (argsOf e) else opt1 .val (cX n c false e)
noncomputable def MB.of : List MS → MB
  | [] => .nil
  | a :: r => .cons a (MB.of r)
noncomputable def isNot : PySem.Expr → Option (List PySem.Expr)
  | .Tuple ts _ _ => some ts
  | _ => none
section
variable (B : List PySem.Stmt → MB)
noncomputable def cTup (c : Ctx) (ts : List PySem.Expr) (e : PySem.Expr) : Option MS := guardO (noStars ts && decide (ts.length ≠ 0)) ((swapFor c.sc ts e).bind fun r => match r with
  | none => opt2 MS.tset (mapO (cTarget c) ts) (cX 40 c false e)
  | some ms => opt2 MS.swap (mapO (cSlot c) ms) (cX 40 c false e))
noncomputable def cAsg (c : Ctx) (t e : PySem.Expr) : Option MS := match t with
  | .Name x _ => opt2 MS.set (cSlot c x) (cX 40 c false e)
  | .Tuple ts _ _ => cTup c ts e
  | .Attribute a m _ => (nameOf a).bind fun x => guardO (!badName x) (opt3 MS.setattr (ix c.ns x) (fldOf? m) (cX 40 c false e))
  | .Subscript a b _ => opt3 MS.setitem (cX 40 c false a) (cX 40 c false b) (cX 40 c false e)
  | _ => none
noncomputable def cForT (c : Ctx) (t iter : PySem.Expr) (b : List PySem.Stmt) : Option MS := match t with
  | .Name x _ => opt2 (fun i it => MS.for1 i it (B b)) (cSlot c x) (cIter 40 c iter)
  | .Tuple ts _ _ => guardO (noStars ts) (opt2 (fun is it => MS.forN is it (B b)) (mapO (cNames c) ts) (cIter 40 c iter))
  | _ => none
noncomputable def single : List PySem.Expr → Option PySem.Expr
  | [t] => some t
  | _ => none
noncomputable def stepS (c : Ctx) (st : PySem.Stmt) : Option MS := match st with
  | .Return v _ => v.bind fun e => opt1 MS.ret (cX 40 c false e)
  | .Assign ts e _ => (single ts).bind fun t => guardO (notComp e) (cAsg c t e)
  | .AugAssign t op e _ => (nameOf t).bind fun x => guardO (decide (op = .Add)) (opt2 MS.aug (cSlot c x) (cX 40 c false e))
  | .Expr e _ => guardO (notComp e) (opt1 MS.expr (cX 40 c false e))
  | .If t a b _ => opt1 (fun t => MS.ite t (B a) (B b)) (cX 40 c true t)
  | .While t b orelse _ => guardO orelse.isEmpty (opt1 (fun t => MS.loop t (B b)) (cX 40 c true t))
  | .For t iter b orelse _ => guardO (orelse.isEmpty && notSet iter) (cForT B c t iter b)
  | _ => none
end
noncomputable def cS : Nat → Ctx → PySem.Stmt → MS
  | 0, _, _ => .stuck
  | n + 1, c, st => (stepS (fun b => .of (b.map (cS n c))) c st).getD .stuck
noncomputable def psOf (st : Stmt) : List Str := (fArgs st).args.map (·.arg)
noncomputable def nsOf (st : Stmt) : List Str := psOf st ++ ((fScope st).names.filterMap fun y => if (y.2 = .local ∨ y.2 = .cell) ∧ y.1 ∉ psOf st then some y.1 else none)
noncomputable def ctxOf (st : Stmt) : Ctx := ⟨nsOf st, fScope st⟩
noncomputable def compile (st : Stmt) : Fn := ⟨(psOf st).length, (nsOf st).length, .of ((fBody st).map (cS 12 (ctxOf st)))⟩
end Mine
namespace Mine

theorem lookup_mem {α β : Type} [BEq α] [LawfulBEq α] {x : α} {y : β} : ∀ {l : List (α × β)}, l.lookup x = some y → (x, y) ∈ l
  | [], h => by simp at h
  | (a, b) :: r, h => by
    rw [List.lookup_cons] at h
    split at h
    · rename_i q
      have : x = a := by simpa using q
      cases h; rw [this]; exact .head _
    · exact .tail _ (lookup_mem h)
/-! ## the tables say what the globals are -/
noncomputable def glOk (w : World) (p : Str × V) : Bool := match p.2, (H1 w.params).nsMap mainGlobals p.1 with
  | .int i, some (.int j _) => decide (i = j)
  | .str l, some (.str s _) => decide (s.cps.toList = l)
  | .g (.ref a), some (.ref b) => decide (a = b)
  | _, _ => false
theorem gl_all (w : World) : glTab.all (glOk w) = true := by kernel_rfl
theorem gl_is {w : World} {x : Str} {v : V} (h : glTab.lookup x = some v) : GlobIs w x v := by
  have := List.all_eq_true.mp (gl_all w) _ (lookup_mem h)
  unfold glOk at this
  split at this
  · rename_i i j t e1 e2
    dsimp only at e1 e2
    have e := of_decide_eq_true this
    subst e1 e
    exact ⟨_, fun _ _ => .int i t, .inl e2⟩
  · rename_i l s t e1 e2
    dsimp only at e1 e2
    have e := of_decide_eq_true this
    subst e1 e
    exact ⟨_, fun h' ρ' => by cases s with | mk a => simpa using Rep.str (h := h') (ρ := ρ') a.toList t, .inl e2⟩
  · rename_i a b e1 e2
    dsimp only at e1 e2
    have e := of_decide_eq_true this
    subst e1 e
    exact ⟨_, fun _ _ => .g _, .inl e2⟩
  · cases this
noncomputable def fnOk (w : World) (p : Str × Addr) : Bool := (match (H1 w.params).nsMap mainGlobals p.1 with
  | some (.ref b) => decide (b = p.2)
  | _ => false) && (match (H1 w.params).get? p.2 with
  | some o => (match o.data with | .func _ => true | _ => false)
  | none => false)
theorem fn_all (w : World) : fnTab.all (fnOk w) = true := by kernel_rfl
theorem fn_is {w : World} {x : Str} {a : Addr} (h : fnTab.lookup x = some a) : FnIs w x a := by
  have := List.all_eq_true.mp (fn_all w) _ (lookup_mem h)
  unfold fnOk at this
  obtain ⟨h1, h2⟩ := Bool.and_eq_true_iff.mp this
  refine ⟨?_, ?_⟩
  · split at h1
    · rename_i b e
      dsimp only at e h1
      rw [e, of_decide_eq_true h1]
    · cases h1
  · split at h2
    · rename_i o e
      split at h2
      · rename_i fd e'
        exact ⟨o, fd, e, e'⟩
      · cases h2
    · cases h2
noncomputable def biOk (w : World) (p : Str × Nat × Value) : Bool := (match (H1 w.params).nsMap mainGlobals p.1 with
  | none => true
  | _ => false) && (match p.2.2, (H1 w.params).nsMap builtinsNs p.1 with
  | .builtin i, some (.builtin j) => decide (i = j)
  | .type i, some (.type j) => decide (i = j)
  | _, _ => false)
theorem bi_all (w : World) : biTab.all (biOk w) = true := by kernel_rfl
theorem bi_is {w : World} {x : Str} {j : Nat × Value} (h : biTab.lookup x = some j) : BiIs w x j.2 ∧ ((∃ id, j.2 = .builtin id) ∨ ∃ T, j.2 = .type T) := by
  have := List.all_eq_true.mp (bi_all w) _ (lookup_mem h)
  unfold biOk at this
  obtain ⟨h1, h2⟩ := Bool.and_eq_true_iff.mp this
  have hn : (H1 w.params).nsMap mainGlobals x = none := by
    split at h1
    · rename_i e; exact e
    · cases h1
  split at h2
  · rename_i i i' e1 e2
    dsimp only at e1 e2
    rw [e1]
    exact ⟨⟨hn, by rw [e2, of_decide_eq_true h2]⟩, .inl ⟨_, rfl⟩⟩
  · rename_i i i' e1 e2
    dsimp only at e1 e2
    rw [e1]
    exact ⟨⟨hn, by rw [e2, of_decide_eq_true h2]⟩, .inr ⟨_, rfl⟩⟩
  · cases h2
theorem range_is (w : World) : BiIs w "range" (.type "range") := ⟨by kernel_rfl, by kernel_rfl⟩
theorem cls_is (w : World) : ClsIs w "JsonReader" := by unfold ClsIs; kernel_rfl
theorem Rep.tupOf {h : Heap} {ρ : List Addr} {a : Addr} {vs : List Value} {Vs : List V} {o : Obj} (e : h.get? a = some o) (ho : o = Tp vs) (hn : a ∉ ρ) (r : RepL h ρ vs Vs) : Rep h ρ (.ref a) (.tup Vs) := by
  subst ho
  exact .tup ⟨_, e, rfl, 0, rfl⟩ hn r.1 r.2
theorem s_null : Str.ofString "null" = ⟨[110, 117, 108, 108].toArray⟩ := by kernel_rfl
theorem s_true : Str.ofString "true" = ⟨[116, 114, 117, 101].toArray⟩ := by kernel_rfl
theorem s_false : Str.ofString "false" = ⟨[102, 97, 108, 115, 101].toArray⟩ := by kernel_rfl
theorem s_bool : Str.ofString "bool" = ⟨[98, 111, 111, 108].toArray⟩ := by kernel_rfl
theorem words_is (w : World) : GlobAt w "JSON_WORDS" wordsV := by
  refine ⟨.ref 175, by kernel_rfl, fun h ρ hk hρ => ?_⟩
  have off : ∀ a o, (H1 w.params).get? a = some o → a ∉ ρ := fun a o e hm => by rw [hρ a hm] at e; cases e
  have e169 : (H1 w.params).get? 169 = some (Tp [S "null" 463, .none]) := by kernel_rfl
  have e170 : (H1 w.params).get? 170 = some (Tp [S "null" 462, R 169]) := by kernel_rfl
  have e171 : (H1 w.params).get? 171 = some (Tp [S "bool" 465, .bool true]) := by kernel_rfl
  have e172 : (H1 w.params).get? 172 = some (Tp [S "true" 464, R 171]) := by kernel_rfl
  have e173 : (H1 w.params).get? 173 = some (Tp [S "bool" 467, .bool false]) := by kernel_rfl
  have e174 : (H1 w.params).get? 174 = some (Tp [S "false" 466, R 173]) := by kernel_rfl
  have e175 : (H1 w.params).get? 175 = some (Tp [R 170, R 172, R 174]) := by kernel_rfl
  have n1 : ∀ t, Rep h ρ (S "null" t) (.str [110, 117, 108, 108]) := fun t => by show Rep h ρ (.str (Str.ofString "null") t) _; rw [s_null]; exact .str _ _
  have n2 : ∀ t, Rep h ρ (S "true" t) (.str [116, 114, 117, 101]) := fun t => by show Rep h ρ (.str (Str.ofString "true") t) _; rw [s_true]; exact .str _ _
  have n3 : ∀ t, Rep h ρ (S "false" t) (.str [102, 97, 108, 115, 101]) := fun t => by show Rep h ρ (.str (Str.ofString "false") t) _; rw [s_false]; exact .str _ _
  have n4 : ∀ t, Rep h ρ (S "bool" t) (.str [98, 111, 111, 108]) := fun t => by show Rep h ρ (.str (Str.ofString "bool") t) _; rw [s_bool]; exact .str _ _
  have r169 := Rep.tupOf (hk _ _ e169) rfl (off _ _ e169) (.cons (n1 463) (.cons .none .nil))
  have r170 := Rep.tupOf (hk _ _ e170) rfl (off _ _ e170) (.cons (n1 462) (.cons r169 .nil))
  have r171 := Rep.tupOf (hk _ _ e171) rfl (off _ _ e171) (.cons (n4 465) (.cons (.bool true) .nil))
  have r172 := Rep.tupOf (hk _ _ e172) rfl (off _ _ e172) (.cons (n2 464) (.cons r171 .nil))
  have r173 := Rep.tupOf (hk _ _ e173) rfl (off _ _ e173) (.cons (n4 467) (.cons (.bool false) .nil))
  have r174 := Rep.tupOf (hk _ _ e174) rfl (off _ _ e174) (.cons (n3 466) (.cons r173 .nil))
  exact Rep.tupOf (hk _ _ e175) rfl (off _ _ e175) (.cons r170 (.cons r172 (.cons r174 .nil)))
theorem bad_of {x : Str} (h : ¬ badName x = true) : (x == ("__debug__" : Str)) = false ∧ (x == ("__classdict__" : Str)) = false := by
  unfold badName at h
  cases q1 : x == ("__debug__" : Str) <;> cases q2 : x == ("__classdict__" : Str) <;> simp [q1, q2] at h ⊢
theorem fld_is (w : World) {m : Str} {n : Nat} (h : fldOf? m = some n) : fldName n = m ∧ FieldName w m := by
  unfold fldOf? at h
  split at h
  · rename_i q; cases h; subst q; exact ⟨rfl, f_text w⟩
  · split at h
    · rename_i q; cases h; subst q; exact ⟨rfl, f_at w⟩
    · split at h
      · rename_i q; cases h; subst q; exact ⟨rfl, f_waiting w⟩
      · split at h
        · rename_i q; cases h; subst q; exact ⟨rfl, f_keys w⟩
        · cases h
theorem meth_is (w : World) {m : Str} {f : Nat} (h : methOf m = some f) : methName f = m ∧ MethName w m f ∧ keepIn (jsK w) (.ref f) = true := by
  unfold methOf at h
  split at h
  · rename_i q; cases h; subst q; exact ⟨rfl, m_skip w, js_keep246 w⟩
  · split at h
    · rename_i q; cases h; subst q; exact ⟨rfl, m_next w, js_keep267 w⟩
    · split at h
      · rename_i q; cases h; subst q; exact ⟨rfl, m_settled w, js_keep274 w⟩
      · split at h
        · rename_i q; cases h; subst q; exact ⟨rfl, m_whole w, js_keep281 w⟩
        · cases h
theorem form_base {b : PySem.Expr} {n : Str} {env : Env} (h : baseForm b = true) : attributeBase b n env (eval b env) = eval b env := by
  cases b <;> first | rfl | (cases h; done) | skip
  rename_i f args kws pos
  obtain ⟨h1, h3⟩ := Bool.and_eq_true_iff.mp h
  obtain ⟨h1, h2⟩ := Bool.and_eq_true_iff.mp h1
  cases f <;> first | (cases h1; done) | skip
  cases args <;> first | (cases h2; done) | skip
  rfl
theorem EV.methL {w : World} {k : Nat} {env : Env} {ns : List Str} {Λ : List (Option V)} {σ σ₁ σ₂ σ₃ : List Cell} {b : PySem.Expr} {es : List PySem.Expr} {v : V} {vs : List V} {pos p₂ : Pos}
    {n : Str} {f : Addr} {i : Nat} {fs : List (Str × V)} (hb : EV w k env ns b Λ σ (.obj i) σ₁) (hm : MethName w n f) (hk : keepIn (jsK w) (.ref f) = true) (hc : σ₁[i]? = some (.flds fs)) (hno : fs.lookup n = none) (hs' : noStars es = true)
    (ha : EL w k env ns es Λ σ₁ vs σ₂) (hcall : CallOk w k f (.obj i :: vs) σ₂ v σ₃) (hbase : baseForm b = true) (hline : (p₂.endLine == pos.line) = true) (hsz : es.length < 20) :
    EV w k env ns (.Call (.Attribute b n p₂) es [] pos) Λ σ v σ₃ :=
  fun A s ρ Q E hr hi hs hl q => by
    have hform : methodCallForm (es.length + ([] : List Keyword).length) (backTo pos (starEach es env)) (backToKw pos (keywordEach [] env)) = true := by
      unfold methodCallForm
      rw [trees_all hs' pos]
      rw [show backToKw pos (keywordEach [] env) = [] from rfl]
      simp
      lia
    have hpos : methodCallPos true b env p₂ pos = pure pos := by unfold methodCallPos; simp [hline]
    rw [arm_eval_Call, form_base hbase]
    refine wpAny_bind (hb A s ρ _ E hr hi hs hl fun u h₁ t₁ ρ₁ g₁ s₁ r₁ => wpAny_bind (wpAny_standAt ?_))
    unfold methodCall
    rw [hform]
    refine wpAny_bind (wpAny_holding ?_)
    have r₁' := r₁
    cases r₁ with
    | @obj xa d _ hxo hxρ hd =>
      obtain ⟨eds, m, ed, hfl, hnd, hkk⟩ := s₁.cell i d _ hd hc
      have hget := flds_get hfl n
      rw [hno] at hget
      show wpAny _ _ (getMethod _ _ _) _ _ _
      refine method_fn (s := { s with heap := h₁, toks := t₁ }) (K := jsK w) (jsK_in (hi.grow hs g₁)) (ox := instObj jsC d) (od := some (dictOf eds m)) ⟨hxo, rfl, rfl, ed⟩ (js_get w) (js_noget w) hm.1 hm.2 (by unfold shadowIn; simp only [lookIn_dict, hget]; rfl) ?_
      refine wpAny_bind (wpAny_of_eq hpos ?_)
      refine callWith_of (P := fun h => (jsK w).In h) (by rw [trees_plain hs' pos]; rfl) (keeps_K hk) (evalArgs_es hs' (ha A _ ρ₁ pos _ E hr (hi.grow hs g₁) s₁ (hl.grow g₁) fun xs h₂ t₂ ρ₂ g₂ s₂ r₂ => ⟨jsK_in ((hi.grow hs g₁).grow s₁ g₂), wpAny_call ?_⟩))
      exact hcall A _ ρ₂ (.ref xa :: xs) _ hr ((hi.grow hs g₁).grow s₁ g₂) s₂ (.cons (r₁'.grow g₂) r₂) fun u h₃ t₃ ρ₃ g₃ s₃ r₃ => q u h₃ t₃ ρ₃ ((g₁.trans g₂ s₂.nodup).trans g₃ s₃.nodup) s₃ r₃
end Mine
namespace Mine

inductive All2 {α β : Type} (R : α → β → Prop) : List α → List β → Prop where
  | nil : All2 R [] []
  | cons {a : α} {b : β} {l₁ : List α} {l₂ : List β} : R a b → All2 R l₁ l₂ → All2 R (a :: l₁) (b :: l₂)
noncomputable def OkC (w : World) (k : Nat) (C : Nat → List V → St → Option (V × St)) : Prop := ∀ f args σ v σ', C f args σ = some (v, σ') → CallOk w k f args σ v σ'
section
variable (C : Nat → List V → St → Option (V × St)) (w : World) (k : Nat)
noncomputable def OkV (c : Ctx) (e : PySem.Expr) (m : MX) : Prop := ∀ env, EnvOk env → env.scope = c.sc → ∀ Λ σ (r : V × St), evalM C m Λ σ = some r → EV w k env c.ns e Λ σ r.1 r.2
noncomputable def OkT (c : Ctx) (e : PySem.Expr) (m : MX) : Prop := ∀ env, EnvOk env → env.scope = c.sc → ∀ Λ σ (r : V × St) t, evalM C m Λ σ = some r → truthV r.1 = some t → TV w k env c.ns e Λ σ t r.2
noncomputable def OkL (c : Ctx) (es : List PySem.Expr) (l : ML) : Prop := ∀ env, EnvOk env → env.scope = c.sc → ∀ Λ σ (r : List V × St), evalL C l Λ σ = some r → EL w k env c.ns es Λ σ r.1 r.2
noncomputable def OkO (c : Ctx) (e : Option PySem.Expr) (m : MO) : Prop := ∀ env, EnvOk env → env.scope = c.sc → ∀ Λ σ (r : Option Int × St), evalO C m Λ σ = some r → OV w k env c.ns e Λ σ r.1 r.2
end
theorem bind_is {α β : Type} {o : Option α} {f : α → Option β} {b : β} (h : o.bind f = some b) : ∃ a, o = some a ∧ f a = some b := Option.bind_eq_some_iff.mp h
theorem map_is {α β : Type} {o : Option α} {f : α → β} {b : β} (h : o.map f = some b) : ∃ a, o = some a ∧ f a = b := Option.map_eq_some_iff.mp h
section
variable {C : Nat → List V → St → Option (V × St)} {w : World} {k : Nat} {c : Ctx} {a b d e : PySem.Expr} {ma mb md m : MX} {es : List PySem.Expr} {l : ML} {pos p₂ : Pos} {o o₁ o₂ : CmpOp}

theorem cst_ok {Λ : Lo} {σ : St} {v : V} {r : V × St} (h : evalM C (.cst v) Λ σ = some r) : r = (v, σ) := (Option.some.inj h).symm
theorem OkV.const {kk : Const} {k₁ : Nat} (h : cConst kk = some m) : OkV C w k c (.Constant kk k₁ pos) m := fun env ok hs Λ σ r he => by
  cases kk <;> cases h <;> rw [cst_ok he]
  · exact .c_none
  · exact .c_bool
  · exact .c_int
  · exact .c_str
theorem OkV.name {x : Str} (h : cName c x = some m) : OkV C w k c (.Name x pos) m := fun env ok hs Λ σ r he => by
  obtain ⟨hb, h⟩ := guardO_is h
  obtain ⟨b1, b2⟩ := bad_of (by simpa using hb)
  by_cases hl : isLoc (c.sc.names.lookup x) = true
  · rw [if_pos hl] at h
    obtain ⟨i, hi, rfl⟩ := map_is h
    obtain ⟨v, hv, rfl⟩ := map_is (show (lget Λ i).map (fun v => (v, σ)) = some r from he)
    exact .loc ok (ix_at hi) (lget_is hv) b1 b2
  · rw [if_neg hl] at h
    obtain ⟨hk, h'⟩ := guardO_is h
    have kd : env.kindOf x = some .globalImplicit := by show env.scope.names.lookup x = _; rw [hs]; exact of_decide_eq_true hk
    by_cases hx : x = "JSON_WORDS"
    · rw [if_pos hx] at h'
      subst hx
      obtain rfl := Option.some.inj h'
      rw [cst_ok he]
      exact .globAt ok kd (words_is w) b1
    · rw [if_neg hx] at h'
      obtain ⟨g, hg, rfl⟩ := map_is h'
      rw [cst_ok he]
      exact .glob ok kd (gl_is hg) b1
theorem OkV.bin {o : Operator} (ha : OkV C w k c a ma) (hb : OkV C w k c b mb) : OkV C w k c (.BinOp a o b pos) (.bin o ma mb) := fun env ok hs Λ σ r h => by
  obtain ⟨x, hx, h⟩ := bind_is h
  obtain ⟨y, hy, h⟩ := bind_is h
  obtain ⟨z, hz, rfl⟩ := map_is h
  exact .bin (ha env ok hs _ _ x hx) (hb env ok hs _ _ y hy) hz
theorem OkV.neg (ha : OkV C w k c a ma) : OkV C w k c (.UnaryOp .USub a pos) (.neg ma) := fun env ok hs Λ σ r h => by
  obtain ⟨x, hx, h⟩ := bind_is h
  obtain ⟨i, hi, rfl⟩ := map_is h
  have := ha env ok hs _ _ _ hx
  rw [asInt_is hi] at this
  exact .neg this
theorem OkV.cmp (hk : 9 ≤ k) (ha : OkV C w k c a ma) (hb : OkV C w k c b mb) (hm : (!behindInMarks o b) = true) : OkV C w k c (.Compare a [o] [b] pos) (.cmp o ma mb) := fun env ok hs Λ σ r h => by
  obtain ⟨x, hx, h⟩ := bind_is h
  obtain ⟨y, hy, h⟩ := bind_is h
  obtain ⟨t, ht, rfl⟩ := map_is h
  exact .cmpS (ha env ok hs _ _ x hx) (hb env ok hs _ _ y hy) ht hk (by simpa using hm)
theorem OkT.cmp (hk : 9 ≤ k) (ha : OkV C w k c a ma) (hb : OkV C w k c b mb) (hm : (!behindInMarks o b) = true) : OkT C w k c (.Compare a [o] [b] pos) (.cmp o ma mb) := fun env ok hs Λ σ r t' h ht' => by
  obtain ⟨x, hx, h⟩ := bind_is h
  obtain ⟨y, hy, h⟩ := bind_is h
  obtain ⟨t, ht, rfl⟩ := map_is h
  obtain rfl := Option.some.inj ht'
  exact .cmpS (ha env ok hs _ _ x hx) (hb env ok hs _ _ y hy) ht hk (by simpa using hm)
theorem ifB_is {t : Bool} {α : Type} {x y : Option α} {r : α} (h : ifB t x y = some r) : (t = true ∧ x = some r) ∨ (t = false ∧ y = some r) := by
  unfold ifB at h
  cases t
  · exact .inr ⟨rfl, h⟩
  · exact .inl ⟨rfl, h⟩
theorem chain_parts {Λ : Lo} {σ : St} {r : V × St} (h : evalM C (.chain o₁ o₂ ma mb md) Λ σ = some r) : ∃ x y t₁ t₂ z, evalM C ma Λ σ = some x ∧ evalM C mb Λ x.2 = some y ∧ cmpV o₁ x.1 y.1 = some t₁ ∧ r.1 = .bool t₂ ∧
    (t₁ = true → evalM C md Λ y.2 = some z ∧ cmpV o₂ y.1 z.1 = some t₂ ∧ r.2 = z.2) ∧ (t₁ = false → t₂ = false ∧ r.2 = y.2) := by
  obtain ⟨x, hx, h⟩ := bind_is h
  obtain ⟨y, hy, h⟩ := bind_is h
  obtain ⟨t, ht, h⟩ := bind_is h
  rcases ifB_is h with ⟨rfl, h⟩ | ⟨rfl, h⟩
  · obtain ⟨z, hz, h⟩ := bind_is h
    obtain ⟨u, hu, rfl⟩ := map_is h
    exact ⟨x, y, true, u, z, hx, hy, ht, rfl, fun _ => ⟨hz, hu, rfl⟩, fun h => (by cases h)⟩
  · obtain rfl := Option.some.inj h
    exact ⟨x, y, false, false, x, hx, hy, ht, rfl, fun h => (by cases h), fun _ => ⟨rfl, rfl⟩⟩
theorem OkV.chain (hk : 9 ≤ k) (ha : OkV C w k c a ma) (hb : OkV C w k c b mb) (hd : OkV C w k c d md) (hm : (!lastMarks [o₁, o₂] [b, d]) = true) : OkV C w k c (.Compare a [o₁, o₂] [b, d] pos) (.chain o₁ o₂ ma mb md) := fun env ok hs Λ σ r h => by
  obtain ⟨x, y, t₁, t₂, z, h₁, h₂, hc, hr, ht, hf⟩ := chain_parts h
  rw [hr]
  exact .chain (ha env ok hs _ _ x h₁) (hb env ok hs _ _ y h₂) hc (fun q => ⟨by rw [(ht q).2.2]; exact hd env ok hs _ _ z (ht q).1, (ht q).2.1⟩) hf hk (by simpa using hm)
theorem OkT.chain (hk : 9 ≤ k) (ha : OkV C w k c a ma) (hb : OkV C w k c b mb) (hd : OkV C w k c d md) (hm : (!lastMarks [o₁, o₂] [b, d]) = true) : OkT C w k c (.Compare a [o₁, o₂] [b, d] pos) (.chain o₁ o₂ ma mb md) := fun env ok hs Λ σ r t' h ht' => by
  obtain ⟨x, y, t₁, t₂, z, h₁, h₂, hc, hr, ht, hf⟩ := chain_parts h
  rw [hr] at ht'
  obtain rfl := Option.some.inj ht'
  exact .chain (ha env ok hs _ _ x h₁) (hb env ok hs _ _ y h₂) hc (fun q => ⟨by rw [(ht q).2.2]; exact hd env ok hs _ _ z (ht q).1, (ht q).2.1⟩) hf hk (by simpa using hm)
theorem and_parts {Λ : Lo} {σ : St} {r : V × St} (h : evalM C (.and ma mb) Λ σ = some r) : ∃ t σ₁, evalM C ma Λ σ = some (.bool t, σ₁) ∧ (t = true → evalM C mb Λ σ₁ = some r) ∧ (t = false → r.1 = .bool false ∧ r.2 = σ₁) := by
  obtain ⟨x, hx, h⟩ := bind_is h
  obtain ⟨t, ht, h⟩ := bind_is h
  refine ⟨t, x.2, by rw [hx, ← asBool_is ht], ?_⟩
  rcases ifB_is h with ⟨rfl, h⟩ | ⟨rfl, h⟩
  · exact ⟨fun _ => h, fun q => (by cases q)⟩
  · obtain rfl := Option.some.inj h
    exact ⟨fun q => (by cases q), fun _ => ⟨rfl, rfl⟩⟩
theorem or_parts {Λ : Lo} {σ : St} {r : V × St} (h : evalM C (.or ma mb) Λ σ = some r) : ∃ t σ₁, evalM C ma Λ σ = some (.bool t, σ₁) ∧ (t = false → evalM C mb Λ σ₁ = some r) ∧ (t = true → r.1 = .bool true ∧ r.2 = σ₁) := by
  obtain ⟨x, hx, h⟩ := bind_is h
  obtain ⟨t, ht, h⟩ := bind_is h
  refine ⟨t, x.2, by rw [hx, ← asBool_is ht], ?_⟩
  rcases ifB_is h with ⟨rfl, h⟩ | ⟨rfl, h⟩
  · obtain rfl := Option.some.inj h
    exact ⟨fun q => (by cases q), fun _ => ⟨rfl, rfl⟩⟩
  · exact ⟨fun _ => h, fun q => (by cases q)⟩
theorem OkV.and (ha : OkV C w k c a ma) (hb : OkV C w k c b mb) : OkV C w k c (.BoolOp .And [a, b] pos) (.and ma mb) := fun env ok hs Λ σ r h => by
  obtain ⟨t, σ₁, h₁, ht, hf⟩ := and_parts h
  exact .and (ha env ok hs _ _ _ h₁) (fun q => hb env ok hs _ _ _ (ht q)) hf
theorem OkV.or (ha : OkV C w k c a ma) (hb : OkV C w k c b mb) : OkV C w k c (.BoolOp .Or [a, b] pos) (.or ma mb) := fun env ok hs Λ σ r h => by
  obtain ⟨t, σ₁, h₁, ht, hf⟩ := or_parts h
  exact .or (ha env ok hs _ _ _ h₁) (fun q => hb env ok hs _ _ _ (ht q)) hf
theorem OkV.ite (ha : OkT C w k c a ma) (hb : OkV C w k c b mb) (hd : OkV C w k c d md) : OkV C w k c (.IfExp a b d pos) (.ite ma mb md) := fun env ok hs Λ σ r h => by
  obtain ⟨x, hx, h⟩ := bind_is h
  obtain ⟨t, ht, h⟩ := bind_is h
  rcases ifB_is h with ⟨rfl, h⟩ | ⟨rfl, h⟩
  · exact .ite (ha env ok hs _ _ x _ hx ht) (fun q => hb env ok hs _ _ _ h) (fun q => (by cases q))
  · exact .ite (ha env ok hs _ _ x _ hx ht) (fun q => (by cases q)) (fun q => hd env ok hs _ _ _ h)
theorem OkT.not (ha : OkT C w k c a ma) : OkT C w k c (.UnaryOp .Not a pos) (.not ma) := fun env ok hs Λ σ r t h ht => by
  obtain ⟨x, hx, h⟩ := bind_is h
  obtain ⟨t', ht', rfl⟩ := map_is h
  obtain rfl := Option.some.inj ht
  exact .not (ha env ok hs _ _ x _ hx ht')
theorem OkT.val (ha : OkV C w k c a ma) (hp : plainTest a = true) : OkT C w k c a ma := fun env ok hs Λ σ r t h ht => .val (ha env ok hs _ _ _ h) ht hp
theorem OkT.bools {op : BoolOp} {es : List PySem.Expr} {ms : List MX} (h : All2 (fun e m => OkT C w k c e m) es ms) : ∀ {m : MX}, boolX op ms = some m → ∀ env, EnvOk env → env.scope = c.sc → ∀ Λ σ (r : V × St) t, evalM C m Λ σ = some r → truthV r.1 = some t → TB w k env c.ns op es Λ σ t r.2 := by
  induction h with
  | nil => intro m h; cases h
  | @cons e m₁ es ms he hr ih =>
    intro m h env ok hs Λ σ r t hm ht
    unfold boolX at h
    cases hr with
    | nil =>
      obtain rfl := Option.some.inj h
      cases op with
      | And => cases t with
        | true => exact .and_true (he env ok hs _ _ _ _ hm ht) .and_nil
        | false => exact .and_false (he env ok hs _ _ _ _ hm ht)
      | Or => cases t with
        | true => exact .or_true (he env ok hs _ _ _ _ hm ht)
        | false => exact .or_false (he env ok hs _ _ _ _ hm ht) .or_nil
    | @cons e₂ m₂ es ms he₂ hr =>
      obtain ⟨mb, hmb, h⟩ := map_is h
      have ih := ih hmb env ok hs
      cases op with
      | And =>
        subst h
        obtain ⟨t₁, σ₁, h₁, htt, hff⟩ := and_parts hm
        cases t₁ with
        | true => exact .and_true (he env ok hs _ _ _ _ h₁ rfl) (ih _ _ _ _ (htt rfl) ht)
        | false =>
          obtain ⟨e1, e2⟩ := hff rfl
          rw [e1] at ht
          obtain rfl := Option.some.inj ht
          rw [e2]
          exact .and_false (he env ok hs _ _ _ _ h₁ rfl)
      | Or =>
        subst h
        obtain ⟨t₁, σ₁, h₁, htt, hff⟩ := or_parts hm
        cases t₁ with
        | false => exact .or_false (he env ok hs _ _ _ _ h₁ rfl) (ih _ _ _ _ (htt rfl) ht)
        | true =>
          obtain ⟨e1, e2⟩ := hff rfl
          rw [e1] at ht
          obtain rfl := Option.some.inj ht
          rw [e2]
          exact .or_true (he env ok hs _ _ _ _ h₁ rfl)
theorem OkT.boolop {op : BoolOp} {ms : List MX} (h : All2 (fun e m => OkT C w k c e m) es ms) (hm : boolX op ms = some m) : OkT C w k c (.BoolOp op es pos) m := fun env ok hs Λ σ r t he ht => .boolop (OkT.bools h hm env ok hs _ _ _ _ he ht)

theorem OkL.nil : OkL C w k c [] .nil := fun env ok hs Λ σ r h => by
  obtain rfl := Option.some.inj h
  exact .nil
theorem OkL.cons (ha : OkV C w k c a ma) (hb : OkL C w k c es l) (hn : notStar a = true) : OkL C w k c (a :: es) (.cons ma l) := fun env ok hs Λ σ r h => by
  obtain ⟨x, hx, h⟩ := bind_is h
  obtain ⟨xs, hxs, rfl⟩ := map_is h
  exact .cons (ha env ok hs _ _ x hx) (hb env ok hs _ _ xs hxs) hn
theorem evalL_len : ∀ {l : ML} {Λ : Lo} {σ : St} {r : List V × St}, evalL C l Λ σ = some r → r.1.length = l.len
  | .nil, _, _, _, h => by obtain rfl := Option.some.inj h; rfl
  | .cons a l, _, _, _, h => by
    obtain ⟨x, hx, h⟩ := bind_is h
    obtain ⟨xs, hxs, rfl⟩ := map_is h
    show xs.1.length + 1 = l.len + 1
    rw [evalL_len hxs]
theorem OkV.tup {kk : Nat} (h : OkL C w k c es l) (hn : l.len ≤ 1000) : OkV C w k c (.Tuple es kk pos) (.tup l) := fun env ok hs Λ σ r he => by
  obtain ⟨r, hr, rfl⟩ := map_is he
  exact .tup (h env ok hs _ _ _ hr) (by rw [evalL_len hr]; exact hn)
theorem OkV.ilst (h : OkL C w k c es l) (hn : l.len ≤ 1000) : OkV C w k c (.List es pos) (.ilst l) := fun env ok hs Λ σ r he => by
  obtain ⟨r, hr, rfl⟩ := map_is he
  exact .ilst (h env ok hs _ _ _ hr) (by rw [evalL_len hr]; exact hn)
theorem OkV.arr (h : OkL C w k c es l) (hn : l.len ≤ 1000) : OkV C w k c (.List es pos) (.arr l) := fun env ok hs Λ σ r he => by
  obtain ⟨r, hr, rfl⟩ := map_is he
  exact .arr (h env ok hs _ _ _ hr) (by rw [evalL_len hr]; exact hn)
theorem OkV.lst : OkV C w k c (.List [] pos) .lst := fun env ok hs Λ σ r he => by
  obtain rfl := Option.some.inj he
  exact .lst .nil (Nat.zero_le _)
theorem OkV.tab {keys : List (Option PySem.Expr)} {values : List PySem.Expr} (h : tabIs keys values shortTab = true) (hall : keys.all (·.isSome) = true) (hl : keys.length = values.length) (h0 : keys.length ≠ 0) (hlen : keys.length ≤ 15) :
    OkV C w k c (.Dict keys values pos) .tab := fun env ok hs Λ σ r he => by
  obtain rfl := Option.some.inj he
  exact .tab h hall hl (fun e => h0 (by rw [e]; rfl)) hlen
theorem one1_is {vs : List V} {x : V} (h : one1 vs = some x) : vs = [x] := by
  unfold one1 at h
  split at h
  · cases h; rfl
  · cases h
theorem two2_is {vs : List V} {x : V × V} (h : two2 vs = some x) : vs = [x.1, x.2] := by
  unfold two2 at h
  split at h
  · cases h; rfl
  · cases h
theorem len_sound {σ : St} {x z : V} (h : lenV σ x = some z) : BiOk w k (.builtin "len") [x] σ z := by
  unfold lenV at h
  split at h
  · obtain ⟨l, hl, h⟩ := bind_is h
    obtain ⟨hg, h⟩ := guardO_is h
    obtain rfl := Option.some.inj h
    rw [asStr_is hl]
    exact Bi.len_str (by have := of_decide_eq_true hg; lia)
  · obtain ⟨l, hl, h⟩ := bind_is h
    obtain ⟨hg, h⟩ := guardO_is h
    obtain rfl := Option.some.inj h
    exact Bi.len_list hl (of_decide_eq_true hg)
theorem int_sound {σ : St} {x z : V} (h : intV x = some z) : BiOk w k (.type "int") [x] σ z := by
  unfold intV at h
  split at h
  · cases h; exact Bi.int_int
  · cases h; exact Bi.int_bool
  · obtain ⟨n, hn, h⟩ := bind_is h
    obtain ⟨hg, h⟩ := guardO_is h
    obtain rfl := Option.some.inj h
    exact Bi.int_str hn (of_decide_eq_true hg)
  · cases h
theorem biV_sound {f : Nat} {x : Value} {σ : St} {vs : List V} {z : V} (h : biV σ f vs = some z) (hx : ∃ n, (n, f, x) ∈ biTab) : BiOk w k x vs σ z := by
  obtain ⟨n, hn⟩ := hx
  simp only [biTab, List.mem_cons, Prod.mk.injEq, List.not_mem_nil, or_false] at hn
  rcases hn with ⟨_, rfl, rfl⟩ | ⟨_, rfl, rfl⟩ | ⟨_, rfl, rfl⟩ | ⟨_, rfl, rfl⟩ | ⟨_, rfl, rfl⟩ | ⟨_, rfl, rfl⟩ | ⟨_, rfl, rfl⟩ | ⟨_, rfl, rfl⟩
  · obtain ⟨x, hx, h⟩ := bind_is (show (one1 vs).bind (lenV σ) = some z from h)
    rw [one1_is hx]; exact len_sound h
  · obtain ⟨x, hx, h⟩ := bind_is (show (one1 vs).bind ordV = some z from h)
    rw [one1_is hx]
    obtain ⟨l, hl, h⟩ := bind_is h
    obtain ⟨c, hc, rfl⟩ := map_is h
    rw [asStr_is hl]
    unfold one? at hc
    split at hc
    · cases hc; exact Bi.ord
    · cases hc
  · obtain ⟨x, hx, h⟩ := bind_is (show (one1 vs).bind chrV = some z from h)
    rw [one1_is hx]
    obtain ⟨i, hi, h⟩ := bind_is h
    obtain ⟨hg, h⟩ := guardO_is h
    obtain rfl := Option.some.inj h
    rw [asInt_is hi]
    have := of_decide_eq_true hg
    exact Bi.chr this.1 (by lia)
  · obtain ⟨x, hx, h⟩ := bind_is (show (one1 vs).bind absV = some z from h)
    rw [one1_is hx]
    obtain ⟨i, hi, rfl⟩ := map_is h
    rw [asInt_is hi]; exact Bi.abs
  · obtain ⟨x, hx, h⟩ := bind_is (show (two2 vs).bind maxV = some z from h)
    rw [two2_is hx]
    obtain ⟨i, hi, h⟩ := bind_is h
    obtain ⟨j, hj, rfl⟩ := map_is h
    rw [asInt_is hi, asInt_is hj]; exact Bi.max
  · obtain ⟨x, hx, h⟩ := bind_is (show (two2 vs).bind minV = some z from h)
    rw [two2_is hx]
    obtain ⟨i, hi, h⟩ := bind_is h
    obtain ⟨j, hj, rfl⟩ := map_is h
    rw [asInt_is hi, asInt_is hj]; exact Bi.min
  · obtain ⟨x, hx, h⟩ := bind_is (show (one1 vs).bind intV = some z from h)
    rw [one1_is hx]; exact int_sound h
  · obtain ⟨x, hx, h⟩ := bind_is (show (one1 vs).bind strV = some z from h)
    rw [one1_is hx]
    obtain ⟨i, hi, h⟩ := bind_is h
    obtain ⟨hg, h⟩ := guardO_is h
    obtain rfl := Option.some.inj h
    rw [asInt_is hi]; exact Bi.str_int (of_decide_eq_true hg)
theorem OkV.call {x : Str} (hC₀ : OkC w k C) (h : OkL C w (k + 5) c es l) (hn : noStars es = true) (hx : cCall c x l = some m) : OkV C w (k + 5) c (.Call (.Name x p₂) es [] pos) m := fun env ok hs Λ σ r he => by
  obtain ⟨hb, hx⟩ := guardO_is hx
  obtain ⟨hb, hk⟩ := Bool.and_eq_true_iff.mp hb
  obtain ⟨b1, b2⟩ := bad_of (by simpa using hb)
  have kd : env.kindOf x = some .globalImplicit := by show env.scope.names.lookup x = _; rw [hs]; exact of_decide_eq_true hk
  by_cases h1 : (fnTab.lookup x).isSome = true
  · rw [if_pos h1] at hx
    obtain ⟨a, ha, rfl⟩ := map_is hx
    obtain ⟨v, hv, he⟩ := bind_is he
    exact .call ok kd b1 (fn_is ha) hn (h env ok hs _ _ v hv) ((hC₀ _ _ _ _ _ he).le (by lia))
  · rw [if_neg h1] at hx
    by_cases h2 : (biTab.lookup x).isSome = true
    · rw [if_pos h2] at hx
      obtain ⟨j, hj, rfl⟩ := map_is hx
      obtain ⟨v, hv, he⟩ := bind_is he
      obtain ⟨z, hz, rfl⟩ := map_is he
      obtain ⟨i1, i2⟩ := bi_is (w := w) hj
      exact .bi ok kd b1 i1 i2 hn (h env ok hs _ _ v hv) (biV_sound hz ⟨_, lookup_mem hj⟩)
    · rw [if_neg h2] at hx
      obtain ⟨hq, hx⟩ := guardO_is hx
      obtain rfl := of_decide_eq_true hq
      obtain rfl := Option.some.inj hx
      obtain ⟨v, hv, he⟩ := bind_is he
      obtain ⟨y, hy, he⟩ := bind_is he
      obtain ⟨hg, he⟩ := guardO_is he
      obtain rfl := Option.some.inj he
      have hy1 : y.1 = .none := by cases q : y.1 <;> rw [q] at hg <;> first | rfl | cases hg
      exact EV.new ok kd b1 (cls_is w) hn (h env ok hs _ _ v hv) (hC₀ _ _ _ _ _ (by rw [hy, ← hy1]))
end
end Mine
namespace Mine
section
variable {C : Nat → List V → St → Option (V × St)} {w : World} {k : Nat} {c : Ctx} {a b d e : PySem.Expr} {ma mb md m : MX} {es : List PySem.Expr} {l : ML} {pos p₂ p₃ : Pos} {o o₁ o₂ : CmpOp}
theorem OkV.item (ha : OkV C w k c a ma) (hb : OkV C w k c b mb) (hn : notSlice b = true) : OkV C w k c (.Subscript a b pos) (.item ma mb) := fun env ok hs Λ σ r h => by
  obtain ⟨x, hx, h⟩ := bind_is h
  obtain ⟨y, hy, h⟩ := bind_is h
  obtain ⟨z, hz, rfl⟩ := map_is h
  exact .item (ha env ok hs _ _ x hx) (hb env ok hs _ _ y hy) hz hn
theorem OkO.no : OkO C w k c none .no := fun env ok hs Λ σ r h => by
  obtain rfl := Option.some.inj h
  exact .no
theorem OkO.yes (ha : OkV C w k c a ma) : OkO C w k c (some a) (.yes ma) := fun env ok hs Λ σ r h => by
  obtain ⟨x, hx, h⟩ := bind_is h
  obtain ⟨i, hi, rfl⟩ := map_is h
  have := ha env ok hs _ _ x hx
  rw [asInt_is hi] at this
  exact .yes this
theorem intsV_is : ∀ {l : List V} {ls : List Int}, intsV l = some ls → l = ls.map .int
  | [], ls, h => by obtain rfl := Option.some.inj h; rfl
  | x :: r, ls, h => by
    obtain ⟨i, hi, h⟩ := bind_is h
    obtain ⟨t, ht, rfl⟩ := map_is h
    rw [intsV_is ht, asInt_is hi]; rfl
theorem OkV.slice {lo hi : Option PySem.Expr} {mlo mhi : MO} (ha : OkV C w k c a ma) (hlo : OkO C w k c lo mlo) (hhi : OkO C w k c hi mhi) (hhi' : ∀ e, hi = some e → ∃ me, mhi = .yes me ∧ OkV C w k c e me) (h0 : lo = none → mlo = .no) (h1 : lo ≠ none → ∃ me, mlo = .yes me) (h2 : hi = none → mhi = .no) : OkV C w k c (.Subscript a (.Slice lo hi none p₂) pos) (.slice ma mlo mhi) := fun env ok hs Λ σ r h => by
  obtain ⟨x, hx, h⟩ := bind_is h
  obtain ⟨p, hp, h⟩ := bind_is h
  obtain ⟨q, hq, h⟩ := bind_is h
  obtain ⟨z, hz, rfl⟩ := map_is h
  have E₁ := ha env ok hs _ _ x hx
  have E₂ := hlo env ok hs _ _ p hp
  have E₃ := hhi env ok hs _ _ q hq
  unfold sliceV at hz
  split at hz
  · rename_i s hs'
    obtain ⟨hg, hz⟩ := guardO_is hz
    obtain rfl := Option.some.inj hz
    rw [hs'] at E₁
    simp only [Bool.and_eq_true, decide_eq_true_eq] at hg
    exact .slice E₁ E₂ E₃ hg.1.1 hg.1.2 hg.2
  · rename_i s hs'
    unfold takeV at hz
    by_cases hp1 : p.1 = none
    · rw [if_pos hp1] at hz
      obtain ⟨n, hn, hz⟩ := bind_is hz
      obtain ⟨ls, hls, hz⟩ := bind_is hz
      obtain ⟨hg, hz⟩ := guardO_is hz
      obtain rfl := Option.some.inj hz
      have hg := of_decide_eq_true hg
      rw [hs', intsV_is hls] at E₁
      have hlo' : lo = none := by
        cases hl : lo with
        | none => rfl
        | some e =>
          obtain ⟨me, rfl⟩ := h1 (by rw [hl]; simp)
          obtain ⟨u, hu, hp⟩ := bind_is hp
          obtain ⟨i, hi', rfl⟩ := map_is hp
          cases hp1
      subst hlo'
      obtain rfl := h0 rfl
      obtain rfl := Option.some.inj hp
      cases hi with
      | none =>
        obtain rfl := h2 rfl
        obtain rfl := Option.some.inj hq
        cases hn
      | some e =>
        obtain ⟨me, rfl, hme⟩ := hhi' e rfl
        obtain ⟨u, hu, hq⟩ := bind_is hq
        obtain ⟨i, hi', rfl⟩ := map_is hq
        obtain rfl := Option.some.inj hn
        have E₄ := hme env ok hs _ _ u hu
        rw [asInt_is hi'] at E₄
        exact .take E₁ E₄ hg.1 hg.2
    · rw [if_neg hp1] at hz; cases hz
  · cases hz
theorem OkV.meth1 {mm : Str} (h : cMeth mm ma mb = some m) (ha : OkV C w k c a ma) (hb : OkV C w k c b mb) (hbase : baseOk a = true) (hn : notStar b = true) (hline : (p₃.endLine == pos.line) = true) : OkV C w k c (.Call (.Attribute a mm p₃) [b] [] pos) m := fun env ok hs Λ σ r he => by
  unfold cMeth at h
  by_cases q : mm = "lstrip"
  · rw [if_pos q] at h
    subst q
    obtain rfl := Option.some.inj h
    obtain ⟨x, hx, he⟩ := bind_is he
    obtain ⟨s, hs1, he⟩ := bind_is he
    obtain ⟨y, hy, he⟩ := bind_is he
    obtain ⟨t, ht1, he⟩ := bind_is he
    obtain ⟨hg, he⟩ := guardO_is he
    obtain rfl := Option.some.inj he
    have E₁ := ha env ok hs _ _ x hx
    have E₂ := hb env ok hs _ _ y hy
    rw [asStr_is hs1] at E₁
    rw [asStr_is ht1] at E₂
    exact .lstrip E₁ E₂ hbase hn hline (of_decide_eq_true hg)
  rw [if_neg q] at h
  by_cases q : mm = "join"
  · rw [if_pos q] at h
    subst q
    obtain rfl := Option.some.inj h
    obtain ⟨x, hx, he⟩ := bind_is he
    obtain ⟨s, hs1, he⟩ := bind_is he
    obtain ⟨y, hy, he⟩ := bind_is he
    obtain ⟨ls, hls, he⟩ := bind_is he
    obtain ⟨hg, he⟩ := guardO_is he
    obtain rfl := Option.some.inj he
    obtain ⟨Vs, e1, e2⟩ := bind_is hls
    have E₁ := ha env ok hs _ _ x hx
    rw [asStr_is hs1] at E₁
    exact .join E₁ (hb env ok hs _ _ y hy) e1 e2 hg hbase hn hline
  rw [if_neg q] at h
  by_cases q : mm = "append"
  · rw [if_pos q] at h
    subst q
    obtain rfl := Option.some.inj h
    obtain ⟨x, hx, he⟩ := bind_is he
    obtain ⟨cc, hcc, he⟩ := bind_is he
    obtain ⟨l', hl', he⟩ := bind_is he
    obtain ⟨y, hy, he⟩ := bind_is he
    obtain ⟨l, hl, he⟩ := bind_is he
    obtain ⟨hg, he⟩ := guardO_is he
    obtain rfl := Option.some.inj he
    have E₁ := ha env ok hs _ _ x hx
    rw [asRef_is hcc] at E₁
    exact .append E₁ (hb env ok hs _ _ y hy) ⟨_, listAt_is hl'⟩ (listAt_is hl) (of_decide_eq_true hg) hbase hn hline
  rw [if_neg q] at h; cases h
theorem OkV.field {x m : Str} {i n : Nat} (hi : ix c.ns x = some i) (hn : fldOf? m = some n) (hb : (!badName x) = true) : OkV C w k c (.Attribute (.Name x p₂) m pos) (.field i n) := fun env ok hs Λ σ r he => by
  obtain ⟨e1, hf⟩ := fld_is w hn
  obtain ⟨b1, b2⟩ := bad_of (x := x) (by simpa using hb)
  obtain ⟨o, ho, he⟩ := bind_is he
  obtain ⟨cc, hcc, he⟩ := bind_is he
  obtain ⟨v, hv, he⟩ := bind_is he
  obtain ⟨hg, he⟩ := guardO_is he
  obtain rfl := Option.some.inj he
  rw [e1] at hv
  rw [asObj_is hcc] at ho
  exact .field (.loc ok (ix_at hi) (lget_is ho) b1 b2) hv hf hg
theorem OkV.meth {mm : Str} {f : Nat} (hC : OkC w k C) (hf : methOf mm = some f) (ha : OkV C w k c a ma) (hl : OkL C w k c es l) (hbase : baseForm a = true) (hn : noStars es = true) (hline : (p₂.endLine == pos.line) = true) (hsz : es.length < 20) : OkV C w k c (.Call (.Attribute a mm p₂) es [] pos) (.meth ma f l) := fun env ok hs Λ σ r he => by
  obtain ⟨e1, e2, e3⟩ := meth_is w hf
  obtain ⟨x, hx, he⟩ := bind_is he
  obtain ⟨cc, hcc, he⟩ := bind_is he
  obtain ⟨fs, hfs, he⟩ := bind_is he
  obtain ⟨hno, he⟩ := guardO_is he
  obtain ⟨vs, hvs, he⟩ := bind_is he
  rw [e1] at hno
  have E₁ := ha env ok hs _ _ x hx
  rw [asObj_is hcc] at E₁
  exact .methL E₁ e2 e3 (fldsAt_is hfs) (Option.isNone_iff_eq_none.mp hno) hn (hl env ok hs _ _ vs hvs) (hC _ _ _ _ _ he) hbase hline hsz
theorem seqV_is {env : Env} {Λ : Lo} {σ σ₁ : St} {x : V} {Vs : List V} (h : EV w k env c.ns e Λ σ x σ₁) (hx : seqV x = some Vs) : IV w k env c.ns e Λ σ Vs σ₁ true := by
  unfold seqV at hx
  split at hx
  · cases hx; exact .tup h
  · cases hx; exact .lst h
  · cases hx; exact .str h
  · cases hx
theorem scal_RF {x : V} (h : scal x = true) : RF x := by cases x <;> first | (cases h; done) | constructor
theorem rfV_is : ∀ {n : Nat} {x : V}, rfV n x = true → RF x
  | 0, x, h => scal_RF h
  | n + 1, x, h => by
    unfold rfV at h
    split at h
    · exact .tup _ fun x hx => rfV_is (List.all_eq_true.mp h x hx)
    · exact .lst _ fun x hx => rfV_is (List.all_eq_true.mp h x hx)
    · exact scal_RF h
theorem mapO_is {α β : Type} {f : α → Option β} : ∀ {l : List α} {r : List β}, mapO f l = some r → r.length = l.length ∧ ∀ (i : Nat) (x : α) (y : β), l[i]? = some x → r[i]? = some y → f x = some y
  | [], r, h => by obtain rfl := Option.some.inj h; exact ⟨rfl, fun i x y e => by simp at e⟩
  | x :: l, r, h => by
    obtain ⟨y, hy, h⟩ := bind_is h
    obtain ⟨r', hr', h⟩ := bind_is h
    obtain rfl := Option.some.inj h
    obtain ⟨i1, i2⟩ := mapO_is hr'
    refine ⟨by simp [i1], fun i u v e1 e2 => ?_⟩
    cases i with
    | zero => simp at e1 e2; subst e1 e2; exact hy
    | succ i => exact i2 i u v (by simpa using e1) (by simpa using e2)
theorem mapO_all2 {α β : Type} {f : α → Option β} {R : α → β → Prop} (hR : ∀ x y, f x = some y → R x y) : ∀ {l : List α} {r : List β}, mapO f l = some r → All2 R l r
  | [], r, h => by obtain rfl := Option.some.inj h; exact .nil
  | x :: l, r, h => by
    obtain ⟨y, hy, h⟩ := bind_is h
    obtain ⟨r', hr', h⟩ := bind_is h
    obtain rfl := Option.some.inj h
    exact .cons (hR _ _ hy) (mapO_all2 hR hr')
theorem rep_scal_inj {h h' : Heap} {ρ ρ' : List Addr} {u : Value} {x y : V} (r : Rep h ρ u x) (r' : Rep h' ρ' u y) (hx : scal x = true) (hy : scal y = true) : x = y := by
  cases x <;> first | (cases hx; done) | skip
  · cases r; cases r' <;> first | rfl | (cases hy; done)
  · cases r; cases r' <;> first | rfl | (cases hy; done)
  · obtain ⟨t, rfl⟩ := int_rep r; cases r' <;> first | rfl | (cases hy; done)
  · obtain ⟨t, rfl⟩ := str_rep r; cases r' <;> first | rfl | (cases hy; done)
theorem OkV.comp {x : Str} {iter elt : PySem.Expr} {mit me : MX} {scope : Scope} (hit : OkV C w k c iter mit) (he : OkV C w k ⟨x :: (frsOf c scope).map (·.1), relS scope c.sc⟩ elt me) (hc : compChk c scope x (frsOf c scope) iter = true) :
    OkV C w k c (.ListComp elt [⟨.Name x p₂, iter, [], 0⟩] scope pos) (.comp mit ((frsOf c scope).map (·.2)) me) := fun env ok hs Λ σ r h => by
  simp only [compChk, Bool.and_eq_true, decide_eq_true_eq, List.all_eq_true, Bool.or_eq_true] at hc
  obtain ⟨⟨⟨⟨⟨⟨c1, c2⟩, c3⟩, c4⟩, c5⟩, c6⟩, c7⟩ := hc
  obtain ⟨vx, h₁, h⟩ := bind_is h
  obtain ⟨Vs, hVs, h⟩ := bind_is h
  obtain ⟨Ys, hYs, h⟩ := bind_is h
  obtain ⟨hg, h⟩ := guardO_is h
  obtain rfl := Option.some.inj h
  obtain ⟨g1, g2⟩ := Bool.and_eq_true_iff.mp hg
  simp only [compOk, Bool.and_eq_true, Bool.or_eq_true, decide_eq_true_eq, List.all_eq_true] at g2
  obtain ⟨⟨⟨k1, k2⟩, k3⟩, k4⟩ := g2
  obtain ⟨m1, m2⟩ := mapO_is hYs
  have co : CompOk env scope x (frsOf c scope) c.ns := by
    refine ⟨c1, fun y hy hyl => ?_, fun y hy => c3 y hy, c4, fun y hy hyf => ?_, fun f hf => c6 f hf⟩
    · rcases c2 y hy with q | q
      · exact absurd hyl q
      · exact q
    · rcases c5 y hy with q | q
      · exact absurd hyf q
      · show env.scope.names.lookup y.1 = _; rw [hs]; exact q
  refine .comp (fr := frsOf c scope) ok co (seqV_is (hit env ok hs _ _ vx h₁) hVs) ?_ ?_ (fun x hx => rfV_is (k1 x hx)) ?_ (fun y hy => k2 y hy) ?_ m1 k4
  · intro xx
    cases iter <;> first | rfl | (cases c7; done)
  · intro i u y e1 e2 env' ok' hs'
    obtain ⟨r, hr, hy⟩ := map_is (m2 i u y e1 e2)
    subst hy
    rw [List.map_map] at hr
    exact ⟨r.2, he env' ok' (by rw [hs', hs]) _ _ r hr⟩
  · intro f hf v hv
    have := List.all_eq_true.mp g1 f.2 (List.mem_map.mpr ⟨f, hf, rfl⟩)
    rw [show lget Λ f.2 = some v from Option.join_eq_some_iff.mpr hv] at this
    exact rfV_is this
  · intro u i j x₁ x₂ e1 e2 ⟨_, _, r1⟩ ⟨_, _, r2⟩
    rcases k3 with k3 | k3
    · have := rep_scal_inj r1 r2 (k3 _ (List.mem_of_getElem? e1)) (k3 _ (List.mem_of_getElem? e2))
      subst this
      have hi : i < Ys.length := by rw [m1]; exact (List.getElem?_eq_some_iff.mp e1).1
      have hj : j < Ys.length := by rw [m1]; exact (List.getElem?_eq_some_iff.mp e2).1
      have a1 := m2 i x₁ _ e1 (List.getElem?_eq_getElem hi)
      have a2 := m2 j x₁ _ e2 (List.getElem?_eq_getElem hj)
      rw [a1] at a2
      rw [List.getElem?_eq_getElem hi, List.getElem?_eq_getElem hj, Option.some.inj a2]
    · have hi := (List.getElem?_eq_some_iff.mp e1).1
      have hj := (List.getElem?_eq_some_iff.mp e2).1
      have : i = j := by lia
      rw [this]

theorem cX_zero {t : Bool} (h : cX 0 c t e = some m) : False := by cases h
theorem cX_V {n : Nat} (h : cX (n + 1) c false e = some m) : stepV (cX n) c e = some m := h
theorem cX_T {n : Nat} (h : cX (n + 1) c true e = some m) : stepT (cX n) c e = some m := h
theorem cX_star {n : Nat} (h : cX n c false e = some m) : notStar e = true := by
  cases e <;> first | rfl | skip
  cases n with
  | zero => exact (cX_zero h).elim
  | succ n => cases (show (none : Option MX) = some m from h)
theorem okL_of {n : Nat} (ih : ∀ e m, cX n c false e = some m → OkV C w k c e m) : ∀ {es : List PySem.Expr} {ms : List MX}, mapO (cX n c false) es = some ms → OkL C w k c es (.of ms) ∧ noStars es = true ∧ (ML.of ms).len = es.length
  | [], ms, h => by obtain rfl := Option.some.inj h; exact ⟨.nil, rfl, rfl⟩
  | e :: es, ms, h => by
    obtain ⟨y, hy, h⟩ := bind_is h
    obtain ⟨r', hr', h⟩ := bind_is h
    obtain rfl := Option.some.inj h
    obtain ⟨i1, i2, i3⟩ := okL_of ih hr'
    exact ⟨.cons (ih _ _ hy) i1 (cX_star hy), Bool.and_eq_true_iff.mpr ⟨cX_star hy, i2⟩, by show (ML.of r').len + 1 = es.length + 1; rw [i3]⟩
end
end Mine
namespace Mine
noncomputable def isCmp : PySem.Expr → Bool
  | .Compare .. => true
  | _ => false
section
variable {C : Nat → List V → St → Option (V × St)} {w : World} {k : Nat}
theorem OkC.le {j : Nat} (h : OkC w j C) (hj : j ≤ k) : OkC w k C := fun f args σ v σ' e => (h f args σ v σ' e).le hj
section
variable {n : Nat} {c : Ctx} {m : MX} {pos : Pos} (ihV : ∀ c e m, cX n c false e = some m → OkV C w (k + 9) c e m) (ihT : ∀ c e m, cX n c true e = some m → OkT C w (k + 9) c e m)
include ihV in
theorem cmp_ok {a : PySem.Expr} {ops : List CmpOp} {bs : List PySem.Expr} (h : cCmp (cX n) c a ops bs = some m) : OkV C w (k + 9) c (.Compare a ops bs pos) m ∧ OkT C w (k + 9) c (.Compare a ops bs pos) m := by
  have h9 : 9 ≤ k + 9 := Nat.le_add_left _ _
  unfold cCmp at h
  split at h
  · obtain ⟨hg, h⟩ := guardO_is h
    obtain ⟨x, y, h1, h2, rfl⟩ := opt2_is h
    exact ⟨.cmp h9 (ihV _ _ _ h1) (ihV _ _ _ h2) hg, .cmp h9 (ihV _ _ _ h1) (ihV _ _ _ h2) hg⟩
  · obtain ⟨hg, h⟩ := guardO_is h
    obtain ⟨x, y, z, h1, h2, h3, rfl⟩ := opt3_is h
    exact ⟨.chain h9 (ihV _ _ _ h1) (ihV _ _ _ h2) (ihV _ _ _ h3) hg, .chain h9 (ihV _ _ _ h1) (ihV _ _ _ h2) (ihV _ _ _ h3) hg⟩
  · cases h
include ihV in
theorem list_ok {es : List PySem.Expr} (h : cList (cX n) c es = some m) : OkV C w (k + 9) c (.List es pos) m := by
  unfold cList at h
  split at h
  · rename_i q
    obtain rfl := List.isEmpty_iff.mp q
    obtain rfl := Option.some.inj h
    exact .lst
  · obtain ⟨hg, h⟩ := guardO_is h
    obtain ⟨x, h1, rfl⟩ := opt1_is h
    obtain ⟨i1, i2, i3⟩ := okL_of (ihV _) h1
    split
    · exact .arr i1 (by rw [i3]; exact of_decide_eq_true hg)
    · exact .ilst i1 (by rw [i3]; exact of_decide_eq_true hg)
include ihV in
theorem meth_ok (hC : OkC w k C) {a : PySem.Expr} {mm : Str} {ap : Pos} {args : List PySem.Expr} (h : cMethod (cX n) c a mm ap pos args = some m) : OkV C w (k + 9) c (.Call (.Attribute a mm ap) args [] pos) m := by
  unfold cMethod at h
  split at h
  · obtain ⟨hg, h⟩ := guardO_is h
    obtain ⟨f, x, l, h0, h1, h2, rfl⟩ := opt3_is h
    simp only [Bool.and_eq_true, decide_eq_true_eq] at hg
    obtain ⟨i1, i2, i3⟩ := okL_of (ihV _) h2
    exact .meth (hC.le (Nat.le_add_right _ _)) h0 (ihV _ _ _ h1) i1 hg.1.1 i2 hg.1.2 hg.2
  · split at h
    · obtain ⟨hg, h⟩ := guardO_is h
      obtain ⟨hg1, hg2⟩ := Bool.and_eq_true_iff.mp hg
      obtain ⟨x, y, h1, h2, h3⟩ := opt2_is (Option.join_eq_some_iff.mp h)
      exact .meth1 h3.symm (ihV _ _ _ h1) (ihV _ _ _ h2) hg1 (cX_star h2) hg2
    · cases h
include ihV in
theorem call_ok (hC : OkC w k C) {f : PySem.Expr} {args : List PySem.Expr} {kws : List Keyword} (h : cCallF (cX n) c f args kws pos = some m) : OkV C w (k + 9) c (.Call f args kws pos) m := by
  obtain ⟨hg, h⟩ := guardO_is h
  obtain rfl := List.isEmpty_iff.mp hg
  cases f <;> first | (cases (show (none : Option MX) = some m from h); done) | skip
  · exact meth_ok ihV hC h
  · obtain ⟨l, hl, h⟩ := bind_is h
    obtain ⟨i1, i2, i3⟩ := okL_of (ihV _) hl
    exact OkV.call (k := k + 4) (hC.le (Nat.le_add_right _ _)) i1 i2 h
include ihV in
theorem sub_ok {a s : PySem.Expr} (h : cSub (cX n) c a s = some m) : OkV C w (k + 9) c (.Subscript a s pos) m := by
  by_cases hs : notSlice s = true
  · have h' : opt2 .item (cX n c false a) (cX n c false s) = some m := by
      cases s <;> first | exact h | cases hs
    obtain ⟨x, y, h1, h2, rfl⟩ := opt2_is h'
    exact .item (ihV _ _ _ h1) (ihV _ _ _ h2) hs
  · cases s <;> first | (exact absurd rfl hs) | skip
    rename_i lo hi st _
    obtain ⟨hg, h⟩ := guardO_is h
    obtain rfl := Option.isNone_iff_eq_none.mp hg
    obtain ⟨x, y, z, h1, h2, h3, rfl⟩ := opt3_is h
    have hlo : OkO C w (k + 9) c lo y ∧ (lo = none → y = .no) ∧ (lo ≠ none → ∃ me, y = .yes me) := by
      cases lo with
      | none => obtain rfl := Option.some.inj h2; exact ⟨.no, fun _ => rfl, fun h => absurd rfl h⟩
      | some e =>
        obtain ⟨x, h1, rfl⟩ := opt1_is h2
        exact ⟨.yes (ihV _ _ _ h1), (fun h => by cases h), fun _ => ⟨_, rfl⟩⟩
    have hhi : OkO C w (k + 9) c hi z ∧ (hi = none → z = .no) ∧ (∀ e, hi = some e → ∃ me, z = .yes me ∧ OkV C w (k + 9) c e me) := by
      cases hi with
      | none => obtain rfl := Option.some.inj h3; exact ⟨.no, fun _ => rfl, (fun e h => by cases h)⟩
      | some e =>
        obtain ⟨x, h1, rfl⟩ := opt1_is h3
        exact ⟨.yes (ihV _ _ _ h1), (fun h => by cases h), fun e he => by cases he; exact ⟨_, rfl, ihV _ _ _ h1⟩⟩
    exact .slice (ihV _ _ _ h1) hlo.1 hhi.1 hhi.2.2 hlo.2.1 hlo.2.2 hhi.2.1
theorem nameOf_is {a : PySem.Expr} {x : Str} (h : nameOf a = some x) : ∃ p, a = .Name x p := by
  cases a <;> cases h
  exact ⟨_, rfl⟩
theorem attr_ok {a : PySem.Expr} {mm : Str} (h : cAttr c a mm = some m) : OkV C w (k + 9) c (.Attribute a mm pos) m := by
  obtain ⟨x, hx, h⟩ := bind_is h
  obtain ⟨p, rfl⟩ := nameOf_is hx
  obtain ⟨hg, h⟩ := guardO_is h
  obtain ⟨i, n, h1, h2, rfl⟩ := opt2_is h
  exact .field h1 h2 hg
include ihV in
theorem comp_ok {elt : PySem.Expr} {gens : List Comprehension} {scope : Scope} (h : cComp (cX n) c elt gens scope = some m) : OkV C w (k + 9) c (.ListComp elt gens scope pos) m := by
  unfold cComp at h
  split at h
  · obtain ⟨x, hx, h⟩ := bind_is h
    obtain ⟨p, rfl⟩ := nameOf_is hx
    obtain ⟨hg, h'⟩ := guardO_is h
    obtain ⟨u, v, h1, h2, rfl⟩ := opt2_is h'
    obtain ⟨g0, g2⟩ := Bool.and_eq_true_iff.mp hg
    obtain ⟨g0, g1⟩ := Bool.and_eq_true_iff.mp g0
    obtain rfl := of_decide_eq_true g0
    obtain rfl := List.isEmpty_iff.mp g1
    exact .comp (ihV _ _ _ h1) (ihV _ _ _ h2) g2
  · cases h
include ihV ihT in
theorem stepV_ok (hC : OkC w k C) {e : PySem.Expr} (h : stepV (cX n) c e = some m) : OkV C w (k + 9) c e m := by
  cases e <;> first | (cases (show (none : Option MX) = some m from h); done) | skip
  · rename_i op es p
    have h : cBool2 (cX n) c op es = some m := h
    unfold cBool2 at h
    split at h
    · obtain ⟨x, y, h1, h2, rfl⟩ := opt2_is h
      cases op
      · exact .and (ihV _ _ _ h1) (ihV _ _ _ h2)
      · exact .or (ihV _ _ _ h1) (ihV _ _ _ h2)
    · cases h
  · obtain ⟨x, y, h1, h2, rfl⟩ := opt2_is h; exact .bin (ihV _ _ _ h1) (ihV _ _ _ h2)
  · obtain ⟨hg, h⟩ := guardO_is h
    obtain rfl := of_decide_eq_true hg
    obtain ⟨x, h1, rfl⟩ := opt1_is h; exact .neg (ihV _ _ _ h1)
  · obtain ⟨x, y, z, h1, h2, h3, rfl⟩ := opt3_is h; exact .ite (ihT _ _ _ h1) (ihV _ _ _ h2) (ihV _ _ _ h3)
  · obtain ⟨hg, h⟩ := guardO_is h
    obtain rfl := Option.some.inj h
    simp only [Bool.and_eq_true, decide_eq_true_eq] at hg
    obtain ⟨⟨⟨⟨g1, g2⟩, g3⟩, g4⟩, g5⟩ := hg
    exact .tab g1 g2 g3 g4 g5
  · exact comp_ok ihV h
  · exact (cmp_ok ihV h).1
  · exact call_ok ihV hC h
  · exact .const h
  · exact attr_ok h
  · exact sub_ok ihV h
  · exact .name h
  · exact list_ok ihV h
  · obtain ⟨hg, h⟩ := guardO_is h
    obtain ⟨x, h1, rfl⟩ := opt1_is h
    obtain ⟨i1, i2, i3⟩ := okL_of (ihV _) h1
    exact .tup i1 (by rw [i3]; exact of_decide_eq_true hg)
include ihV ihT in
theorem stepT_ok (ihC : ∀ c e m, cX n c false e = some m → isCmp e = true → OkT C w (k + 9) c e m) {e : PySem.Expr} (h : stepT (cX n) c e = some m) : OkT C w (k + 9) c e m := by
  have plain : cX n c false e = some m → (plainTest e = true ∨ isCmp e = true) → OkT C w (k + 9) c e m := fun h hp => by
    rcases hp with hp | hp
    · exact .val (ihV _ _ _ h) hp
    · exact ihC _ _ _ h hp
  cases e <;> first | exact plain h (.inl rfl) | exact plain h (.inr rfl) | (cases (show (none : Option MX) = some m from h); done) | skip
  · obtain ⟨l, hl, h⟩ := bind_is h
    exact .boolop (mapO_all2 (R := fun e m => OkT C w (k + 9) c e m) (fun x y e => ihT c x y e) hl) h
  · rename_i op a p
    have h : (if op = .Not then opt1 .not (cX n c true a) else cX n c false (.UnaryOp op a p)) = some m := h
    by_cases q : op = .Not
    · rw [if_pos q] at h
      subst q
      obtain ⟨x, h1, rfl⟩ := opt1_is h
      exact .not (ihT _ _ _ h1)
    · rw [if_neg q] at h
      exact plain h (.inl (by cases op <;> first | rfl | exact absurd rfl q))
end
theorem cX_sound (hC : OkC w k C) : ∀ (n : Nat), (∀ c e m, cX n c false e = some m → OkV C w (k + 9) c e m) ∧ (∀ c e m, cX n c true e = some m → OkT C w (k + 9) c e m) ∧ (∀ c e m, cX n c false e = some m → isCmp e = true → OkT C w (k + 9) c e m) := by
  intro n
  induction n with
  | zero => exact ⟨fun c e m h => (cX_zero h).elim, fun c e m h => (cX_zero h).elim, fun c e m h => (cX_zero h).elim⟩
  | succ n ih =>
    refine ⟨fun c e m h => stepV_ok ih.1 ih.2.1 hC (cX_V h), fun c e m h => stepT_ok ih.1 ih.2.1 ih.2.2 (cX_T h), fun c e m h hc => ?_⟩
    cases e <;> first | (cases hc; done) | skip
    exact (cmp_ok ih.1 (cX_V h)).2
end
end Mine
namespace Mine
theorem swaps_no {e : PySem.Expr} {t : Option PySem.Expr} {n : Nat} {env : Env} (h : notComp e = true) : swapsWith e t n env = pure false := by
  cases e <;> first | rfl | (exact absurd h Bool.false_ne_true)
theorem mapO_append {α β : Type} {f : α → Option β} : ∀ {a b : List α} {x y : List β}, mapO f a = some x → mapO f b = some y → mapO f (a ++ b) = some (x ++ y)
  | [], b, x, y, h, h' => by obtain rfl := Option.some.inj h; exact h'
  | u :: a, b, x, y, h, h' => by
    obtain ⟨v, hv, h⟩ := bind_is h
    obtain ⟨r, hr, h⟩ := bind_is h
    obtain rfl := Option.some.inj h
    show (f u).bind (fun y => (mapO f (a ++ b)).bind fun l => some (y :: l)) = some (v :: (r ++ y))
    rw [hv, mapO_append hr h']; rfl
theorem mapO_reverse {α β : Type} {f : α → Option β} : ∀ {a : List α} {x : List β}, mapO f a = some x → mapO f a.reverse = some x.reverse
  | [], x, h => by obtain rfl := Option.some.inj h; rfl
  | u :: a, x, h => by
    obtain ⟨v, hv, h⟩ := bind_is h
    obtain ⟨r, hr, h⟩ := bind_is h
    obtain rfl := Option.some.inj h
    rw [List.reverse_cons, List.reverse_cons]
    refine mapO_append (mapO_reverse hr) ?_
    show (f u).bind (fun y => (some []).bind fun l => some (y :: l)) = some [v]
    rw [hv]; rfl
theorem block_fun {env : Env} (ok : EnvOk env) : env.blockKind = .function := by unfold Env.blockKind; rw [ok.k]; rfl
theorem swap_is {env : Env} {c : Ctx} {ts : List PySem.Expr} {e : PySem.Expr} {kk : Nat} {p : Pos} {r : Option (List Str)} (ok : EnvOk env) (hs : env.scope = c.sc) (h : swapFor c.sc ts e = some r) : swappedStores [.Tuple ts kk p] e env = pure r := by
  unfold swapFor at h
  split at h
  · rename_i vs _ _
    unfold swappedStores
    dsimp only
    unfold swapOf at h
    rw [block_fun ok]
    have hst : (vs.any fun e => !notStar e) = (vs.any fun | .Starred .. => true | _ => false) := by congr 1; funext e; cases e <;> rfl
    rw [hst] at h
    have hkd : env.kindOf = fun id => c.sc.names.lookup id := by funext id; show env.scope.names.lookup id = _; rw [hs]
    rw [hkd]
    split at h
    · rename_i q; cases h; exact if_pos (by simp only [Bool.or_eq_true] at q ⊢; exact .inl (by simpa using q))
    · rename_i q
      refine (if_neg (by simpa using q)).trans ?_
      split at h
      · rename_i q2; cases h; exact if_pos q2
      · rename_i q2
        refine (if_neg q2).trans ?_
        dsimp only at h ⊢
        split at h
        · rename_i q3; cases h; exact if_pos q3
        · rename_i q3
          refine (if_neg q3).trans ?_
          split at h
          · rename_i q4; cases h; exact if_pos q4
          · rename_i q4
            refine (if_neg q4).trans ?_
            split at h
            · cases h
            · rename_i q5; cases h; exact if_neg q5
  · rename_i hn
    cases h
    unfold swappedStores
    cases e <;> first | rfl | exact absurd rfl (hn _ _ _)
end Mine
namespace Mine
noncomputable def LenOk (n : Nat) : Out → Prop
  | .next Λ _ => Λ.length = n
  | .ret _ _ => True
section
variable {C : Nat → List V → St → Option (V × St)} {F : Nat} {w : World} {k : Nat} {c : Ctx}
noncomputable def OkS (C : Nat → List V → St → Option (V × St)) (F : Nat) (w : World) (k : Nat) (c : Ctx) (st : PySem.Stmt) (m : MS) : Prop :=
  ∀ env, EnvOk env → env.scope = c.sc → ∀ Λ σ o, Λ.length = c.ns.length → execM C F m Λ σ = some o → E1 w k env c.ns st Λ σ o ∧ LenOk c.ns.length o
noncomputable def OkB (C : Nat → List V → St → Option (V × St)) (F : Nat) (w : World) (k : Nat) (c : Ctx) (sts : List PySem.Stmt) (m : MB) : Prop :=
  ∀ env, EnvOk env → env.scope = c.sc → ∀ Λ σ o, Λ.length = c.ns.length → execB C F m Λ σ = some o → EX w k env c.ns sts Λ σ o ∧ LenOk c.ns.length o

theorem slot_of {env : Env} {Λ : Lo} {x : Str} {i : Nat} (hs : env.scope = c.sc) (hnd : c.ns.Nodup) (hl : Λ.length = c.ns.length) (h : cSlot c x = some i) : Slot env c.ns Λ i x ∧ (x == ("__debug__" : Str)) = false ∧ (x == ("__classdict__" : Str)) = false := by
  obtain ⟨hg, h⟩ := guardO_is h
  simp only [Bool.and_eq_true, Bool.or_eq_true, decide_eq_true_eq] at hg
  obtain ⟨q, hb⟩ := hg
  refine ⟨⟨ix_at h, hnd, by rw [hl]; exact ix_lt h, ?_⟩, bad_of (by simpa using hb)⟩
  rcases q with q | q
  · exact .inl (by show env.scope.names.lookup x = _; rw [hs]; exact q)
  · exact .inr (by show env.scope.names.lookup x = _; rw [hs]; exact q)
theorem set_len {Λ : Lo} {i n : Nat} {v : Option V} (h : Λ.length = n) : (Λ.set i v).length = n := by rw [List.length_set]; exact h
theorem setG_sound {env : Env} (ok : EnvOk env) (hs : env.scope = c.sc) (hnd : c.ns.Nodup) : ∀ {ts : List PySem.Expr} {ms : List MG}, mapO (cTarget c) ts = some ms → noStars ts = true → ∀ {vs : List V} {Λ : Lo} {σ : St} {r : Lo × St}, Λ.length = c.ns.length → setG ms vs Λ σ = some r →
    TGL w k env c.ns ts vs Λ σ r.1 r.2 ∧ r.1.length = c.ns.length ∧ ts.length = vs.length
  | [], ms, h, _, vs, Λ, σ, r, hl, he => by
    obtain rfl := Option.some.inj h
    obtain ⟨hg, he⟩ := guardO_is he
    obtain rfl := List.isEmpty_iff.mp hg
    obtain rfl := Option.some.inj he
    exact ⟨.nil, hl, rfl⟩
  | t :: ts, ms, h, hns, vs, Λ, σ, r, hl, he => by
    obtain ⟨g, hg, h⟩ := bind_is h
    obtain ⟨gs, hgs, h⟩ := bind_is h
    obtain rfl := Option.some.inj h
    obtain ⟨n1, n2⟩ := Bool.and_eq_true_iff.mp hns
    cases vs with
    | nil => cases he
    | cons v vs =>
      cases t <;> first | (cases (show (none : Option MG) = some g from hg); done) | skip
      · rename_i a mm p
        obtain ⟨x, hx, hg⟩ := bind_is (show (nameOf a).bind _ = some g from hg)
        obtain ⟨p, rfl⟩ := nameOf_is hx
        obtain ⟨hb, hg⟩ := guardO_is hg
        obtain ⟨j, n, hj, hn, rfl⟩ := opt2_is hg
        obtain ⟨b1, b2⟩ := bad_of (by simpa using hb)
        obtain ⟨e1, hf⟩ := fld_is w hn
        obtain ⟨o, ho, he⟩ := bind_is he
        obtain ⟨cc, hcc, he⟩ := bind_is he
        obtain ⟨fs, hfs, he⟩ := bind_is he
        obtain ⟨hz, he⟩ := guardO_is he
        rw [asObj_is hcc] at ho
        rw [e1] at he
        obtain ⟨i1, i2, i3⟩ := setG_sound ok hs hnd hgs n2 hl he
        exact ⟨.cons (.attr ok (ix_at hj) (lget_is ho) b1 b2 (fldsAt_is hfs) hf (of_decide_eq_true hz)) i1 n1, i2, by simp [i3]⟩
      · obtain ⟨i, hi, rfl⟩ := opt1_is (show opt1 MG.loc _ = some g from hg)
        obtain ⟨i1, i2, i3⟩ := setG_sound ok hs hnd hgs n2 (set_len hl) (show setG gs vs (Λ.set i (some v)) σ = some r from he)
        exact ⟨.cons (.name ok (slot_of hs hnd hl hi).1) i1 n1, i2, by simp [i3]⟩
theorem setN_sound {env : Env} (ok : EnvOk env) (hs : env.scope = c.sc) (hnd : c.ns.Nodup) : ∀ {ts : List PySem.Expr} {is : List Nat}, mapO (cNames c) ts = some is → noStars ts = true → ∀ {vs : List V} {Λ Λ' : Lo} {σ : St}, Λ.length = c.ns.length → setN is vs Λ = some Λ' →
    TGL w k env c.ns ts vs Λ σ Λ' σ ∧ Λ'.length = c.ns.length ∧ ts.length = vs.length
  | [], ms, h, _, vs, Λ, Λ', σ, hl, he => by
    obtain rfl := Option.some.inj h
    obtain ⟨hg, he⟩ := guardO_is he
    obtain rfl := List.isEmpty_iff.mp hg
    obtain rfl := Option.some.inj he
    exact ⟨.nil, hl, rfl⟩
  | t :: ts, ms, h, hns, vs, Λ, Λ', σ, hl, he => by
    obtain ⟨g, hg, h⟩ := bind_is h
    obtain ⟨gs, hgs, h⟩ := bind_is h
    obtain rfl := Option.some.inj h
    obtain ⟨n1, n2⟩ := Bool.and_eq_true_iff.mp hns
    cases vs with
    | nil => cases he
    | cons v vs =>
      obtain ⟨x, hx, hg⟩ := bind_is hg
      obtain ⟨p, rfl⟩ := nameOf_is hx
      obtain ⟨i1, i2, i3⟩ := setN_sound ok hs hnd hgs n2 (set_len hl) (show setN gs vs (Λ.set g (some v)) = some Λ' from he)
      exact ⟨.cons (.name ok (slot_of hs hnd hl hg).1) i1 n1, i2, by simp [i3]⟩
theorem sets_of {env : Env} (hs : env.scope = c.sc) (hnd : c.ns.Nodup) : ∀ {ms : List Str} {is : List Nat}, mapO (cSlot c) ms = some is → ∀ {vs : List V} {Λ Λ' : Lo}, Λ.length = c.ns.length → setN is vs Λ = some Λ' → Sets env c.ns ms vs Λ Λ' ∧ Λ'.length = c.ns.length
  | [], is, h, vs, Λ, Λ', hl, he => by
    obtain rfl := Option.some.inj h
    obtain ⟨hg, he⟩ := guardO_is he
    obtain rfl := List.isEmpty_iff.mp hg
    obtain rfl := Option.some.inj he
    exact ⟨.nil _, hl⟩
  | x :: ms, is, h, vs, Λ, Λ', hl, he => by
    obtain ⟨g, hg, h⟩ := bind_is h
    obtain ⟨gs, hgs, h⟩ := bind_is h
    obtain rfl := Option.some.inj h
    cases vs with
    | nil => cases he
    | cons v vs =>
      obtain ⟨i1, i2⟩ := sets_of hs hnd hgs (set_len hl) (show setN gs vs (Λ.set g (some v)) = some Λ' from he)
      exact ⟨.cons _ _ _ _ _ _ _ (slot_of hs hnd hl hg).1 i1, i2⟩
theorem forM_sound {env : Env} {t : PySem.Expr} {body : List PySem.Stmt} {asg : V → Lo → Option Lo} {bm : Lo → St → Option Out} (ha : ∀ v Λ Λ' σ, Λ.length = c.ns.length → asg v Λ = some Λ' → TG w k env c.ns t v Λ σ Λ' σ ∧ Λ'.length = c.ns.length)
    (hb : ∀ Λ σ o, Λ.length = c.ns.length → bm Λ σ = some o → EX w k env c.ns body Λ σ o ∧ LenOk c.ns.length o) : ∀ {vs : List V} {Λ : Lo} {σ : St} {o : Out}, Λ.length = c.ns.length → forM asg bm vs Λ σ = some o → ForIs w k env c.ns t body vs Λ σ o ∧ LenOk c.ns.length o
  | [], Λ, σ, o, hl, h => by
    obtain rfl := Option.some.inj h
    exact ⟨.nil _ _, hl⟩
  | v :: vs, Λ, σ, o, hl, h => by
    obtain ⟨Λ₁, h₁, h⟩ := bind_is h
    obtain ⟨a1, a2⟩ := ha _ _ _ σ hl h₁
    obtain ⟨o₂, h₂, h⟩ := bind_is h
    obtain ⟨b1, b2⟩ := hb _ _ _ a2 h₂
    cases o₂ with
    | next Λ₂ σ₂ =>
      obtain ⟨c1, c2⟩ := forM_sound ha hb b2 (show Mine.forM asg bm vs Λ₂ σ₂ = some o from h)
      exact ⟨.turn _ _ _ _ _ _ _ _ a1 b1 c1, c2⟩
    | ret u σ₂ =>
      obtain rfl := Option.some.inj h
      exact ⟨.ret _ _ _ _ _ _ _ a1 b1, trivial⟩
theorem whileM_sound {env : Env} {test : PySem.Expr} {body : List PySem.Stmt} {tm : Lo → St → Option (V × St)} {bm : Lo → St → Option Out} (ht : ∀ Λ σ (r : V × St) t, tm Λ σ = some r → truthV r.1 = some t → TV w k env c.ns test Λ σ t r.2)
    (hb : ∀ Λ σ o, Λ.length = c.ns.length → bm Λ σ = some o → EX w k env c.ns body Λ σ o ∧ LenOk c.ns.length o) : ∀ {n : Nat} {Λ : Lo} {σ : St} {o : Out}, Λ.length = c.ns.length → whileM tm bm n Λ σ = some o → (∃ n, WhileIs w k env c.ns test body n Λ σ o) ∧ LenOk c.ns.length o
  | 0, Λ, σ, o, hl, h => by cases h
  | n + 1, Λ, σ, o, hl, h => by
    obtain ⟨x, h₁, h⟩ := bind_is h
    obtain ⟨t, hx, h⟩ := bind_is h
    have t1 := ht _ _ _ _ h₁ hx
    rcases ifB_is h with ⟨rfl, h⟩ | ⟨rfl, h⟩
    · obtain ⟨o₂, h₂, h⟩ := bind_is h
      obtain ⟨b1, b2⟩ := hb _ _ _ hl h₂
      cases o₂ with
      | next Λ₂ σ₂ =>
        obtain ⟨⟨n', c1⟩, c2⟩ := whileM_sound ht hb b2 (show whileM tm bm n Λ₂ σ₂ = some o from h)
        exact ⟨⟨_, .turn _ _ _ _ _ _ _ t1 b1 c1⟩, c2⟩
      | ret u σ₂ =>
        obtain rfl := Option.some.inj h
        exact ⟨⟨_, .ret _ _ _ _ _ t1 b1⟩, trivial⟩
    · obtain rfl := Option.some.inj h
      exact ⟨⟨_, .done _ _ _ t1⟩, hl⟩
theorem okB_of {n : Nat} (ih : ∀ st, OkS C F w k c st (cS n c st)) : ∀ sts : List PySem.Stmt, OkB C F w k c sts (.of (sts.map (cS n c)))
  | [], env, ok, hs, Λ, σ, o, hl, h => by
    obtain rfl := Option.some.inj h
    exact ⟨.nil, hl⟩
  | st :: sts, env, ok, hs, Λ, σ, o, hl, h => by
    obtain ⟨o₁, h₁, h⟩ := bind_is h
    obtain ⟨a1, a2⟩ := ih st env ok hs _ _ _ hl h₁
    cases o₁ with
    | next Λ₁ σ₁ =>
      obtain ⟨b1, b2⟩ := okB_of ih sts env ok hs _ _ _ a2 (show execB C F (.of (sts.map (cS n c))) Λ₁ σ₁ = some o from h)
      exact ⟨.cons_next a1 b1, b2⟩
    | ret v σ₁ =>
      obtain rfl := Option.some.inj h
      exact ⟨.cons_ret a1, trivial⟩
theorem small_is {i : Int} (h : small62 i = true) : -(2 ^ 62) ≤ i ∧ i < 2 ^ 62 := by
  have := of_decide_eq_true h
  omega
theorem iterM_sound (hC : OkC w k C) {n : Nat} {e : PySem.Expr} {it : MI} {env : Env} (ok : EnvOk env) (hs : env.scope = c.sc) {Λ : Lo} {σ : St} {r : List V × St} (h : cIter n c e = some it) (he : iterM C it Λ σ = some r) : ∃ bd, IV w (k + 9) env c.ns e Λ σ r.1 r.2 bd := by
  have sx := fun e m h => (cX_sound hC n).1 c e m h
  unfold cIter at h
  split at h
  · rename_i hr
    cases e <;> first | (cases hr; done) | skip
    rename_i f args kws pos
    simp only [isRange, Bool.and_eq_true, decide_eq_true_eq] at hr
    obtain ⟨⟨r1, r2⟩, r3⟩ := hr
    obtain ⟨p, rfl⟩ := nameOf_is r1
    obtain rfl := List.isEmpty_iff.mp r2
    have kd : env.kindOf ("range" : Str) = some .globalImplicit := by show env.scope.names.lookup _ = _; rw [hs]; exact r3
    have h : cRange c n args = some it := h
    unfold cRange at h
    split at h
    · obtain ⟨ma, mb, h1, h2, rfl⟩ := opt2_is h
      obtain ⟨x, hx, he⟩ := bind_is he
      obtain ⟨i, hi, he⟩ := bind_is he
      obtain ⟨y, hy, he⟩ := bind_is he
      obtain ⟨j, hj, he⟩ := bind_is he
      obtain ⟨hg, he⟩ := guardO_is he
      obtain rfl := Option.some.inj he
      obtain ⟨g1, g2⟩ := Bool.and_eq_true_iff.mp hg
      have E₁ := sx _ _ h1 env ok hs _ _ x hx
      have E₂ := sx _ _ h2 env ok hs _ _ y hy
      rw [asInt_is hi] at E₁
      rw [asInt_is hj] at E₂
      exact ⟨false, .range ok kd (by decide) (range_is w) (by simp [noStars, cX_star h1, cX_star h2]) (.cons E₁ (.cons E₂ .nil (cX_star h2)) (cX_star h1)) (small_is g1).1 (small_is g1).2 (small_is g2).1 (small_is g2).2⟩
    · obtain ⟨mb, h2, rfl⟩ := opt1_is h
      obtain ⟨y, hy, he⟩ := bind_is he
      obtain ⟨j, hj, he⟩ := bind_is he
      obtain ⟨hg, he⟩ := guardO_is he
      obtain rfl := Option.some.inj he
      have E₂ := sx _ _ h2 env ok hs _ _ y hy
      rw [asInt_is hj] at E₂
      exact ⟨false, .range1 ok kd (by decide) (range_is w) (by simp [noStars, cX_star h2]) (.cons E₂ .nil (cX_star h2)) (small_is hg).1 (small_is hg).2⟩
    · cases h
  · obtain ⟨m, hm, rfl⟩ := opt1_is h
    obtain ⟨x, hx, he⟩ := bind_is he
    obtain ⟨l, hl, rfl⟩ := map_is he
    exact ⟨true, seqV_is (sx _ _ hm env ok hs _ _ x hx) hl⟩
end
end Mine
namespace Mine
section
variable {C : Nat → List V → St → Option (V × St)} {F : Nat} {w : World} {k : Nat} {c : Ctx}
theorem sole_no {e t : PySem.Expr} {n : Nat} {env : Env} (h : notComp e = true) : swapsWithSole [t] e n env = pure false := by
  show swapsWith e (some t) n env = _
  exact swaps_no h
theorem stuck_no {st : PySem.Stmt} : OkS C F w k c st .stuck := fun env ok hs Λ σ o hl h => by cases h
theorem getD_is {st : PySem.Stmt} {a : Option MS} (h : ∀ m, a = some m → OkS C F w k c st m) : OkS C F w k c st (a.getD .stuck) := by
  cases a with
  | none => exact stuck_no
  | some m => exact h m rfl
theorem single_is {ts : List PySem.Expr} {t : PySem.Expr} (h : single ts = some t) : ts = [t] := by
  unfold single at h
  split at h
  · cases h; rfl
  · cases h
theorem asg_ok (hC : OkC w k C) (hnd : c.ns.Nodup) {t e : PySem.Expr} {pos : Pos} {m : MS} (hne : notComp e = true) (h : cAsg c t e = some m) : OkS C F w (k + 9) c (.Assign [t] e pos) m := by
  have sx := fun e m h => (cX_sound hC 40).1 c e m h
  cases t <;> first | (cases (show (none : Option MS) = some m from h); done) | skip
  · rename_i a mm p
    obtain ⟨x, hx, h⟩ := bind_is (show (nameOf a).bind _ = some m from h)
    obtain ⟨p, rfl⟩ := nameOf_is hx
    obtain ⟨g2, h⟩ := guardO_is h
    obtain ⟨j, nn, x, h1, h2, h3, rfl⟩ := opt3_is h
    obtain ⟨b1, b2⟩ := bad_of (by simpa using g2)
    obtain ⟨e1, hf⟩ := fld_is w h2
    intro env ok hs Λ σ o hl he
    obtain ⟨v, hv, he⟩ := bind_is he
    obtain ⟨ob, hob, he⟩ := bind_is he
    obtain ⟨cc, hcc, he⟩ := bind_is he
    obtain ⟨fs, hfs, he⟩ := bind_is he
    obtain ⟨hz, he⟩ := guardO_is he
    obtain rfl := Option.some.inj he
    rw [asObj_is hcc] at hob
    rw [e1]
    exact ⟨.setattr ok (sx _ _ h3 env ok hs _ _ v hv) (ix_at h1) (lget_is hob) b1 b2 (fldsAt_is hfs) hf (of_decide_eq_true hz) (swaps_no hne), hl⟩
  · obtain ⟨x, y, z, h1, h2, h3, rfl⟩ := opt3_is h
    intro env ok hs Λ σ o hl he
    obtain ⟨v, hv, he⟩ := bind_is he
    obtain ⟨u, hu, he⟩ := bind_is he
    obtain ⟨cc, hcc, he⟩ := bind_is he
    obtain ⟨t, ht, he⟩ := bind_is he
    obtain ⟨i, hi, he⟩ := bind_is he
    obtain ⟨l, hl', he⟩ := bind_is he
    obtain ⟨hg, he⟩ := guardO_is he
    obtain rfl := Option.some.inj he
    have hb := of_decide_eq_true hg
    have E₂ := sx _ _ h1 env ok hs _ _ u hu
    have E₃ := sx _ _ h2 env ok hs _ _ t ht
    rw [asRef_is hcc] at E₂
    rw [asInt_is hi] at E₃
    exact ⟨.setitem (sx _ _ h3 env ok hs _ _ v hv) E₂ E₃ (arrAt_is hl') hb.1 hb.2.1 (by lia) (swaps_no hne), hl⟩
  · obtain ⟨i, x, h1, h2, rfl⟩ := opt2_is h
    intro env ok hs Λ σ o hl he
    obtain ⟨v, hv, rfl⟩ := map_is he
    exact ⟨.assign ok (sx _ _ h2 env ok hs _ _ v hv) (slot_of hs hnd hl h1).1 (swaps_no hne), set_len hl⟩
  · rename_i ts kk p
    obtain ⟨hg, h⟩ := guardO_is (show guardO _ _ = some m from h)
    obtain ⟨g2, g3⟩ := Bool.and_eq_true_iff.mp hg
    obtain ⟨r, hsw, h⟩ := bind_is h
    cases r with
    | none =>
      obtain ⟨ts', x, h1, h2, rfl⟩ := opt2_is h
      intro env ok hs Λ σ o hl he
      obtain ⟨v, hv, he⟩ := bind_is he
      obtain ⟨vs, hvs, he⟩ := bind_is he
      obtain ⟨r, hr, rfl⟩ := map_is he
      have E₁ := sx _ _ h2 env ok hs _ _ v hv
      rw [asTup_is hvs] at E₁
      obtain ⟨a1, a2, a3⟩ := setG_sound (w := w) (k := k + 9) ok hs hnd h1 g2 hl hr
      exact ⟨.tup E₁ (.tup a1 a3 g2) (sole_no hne) (swap_is ok hs hsw), a2⟩
    | some ms =>
      obtain ⟨is, x, h1, h2, rfl⟩ := opt2_is h
      intro env ok hs Λ σ o hl he
      obtain ⟨v, hv, he⟩ := bind_is he
      obtain ⟨vs, hvs, he⟩ := bind_is he
      obtain ⟨hlen, he⟩ := guardO_is he
      obtain ⟨r, hr, rfl⟩ := map_is he
      have E₁ := sx _ _ h2 env ok hs _ _ v hv
      rw [asTup_is hvs] at E₁
      obtain ⟨a1, a2⟩ := sets_of hs hnd (mapO_reverse h1) hl hr
      exact ⟨.swap ok E₁ a1 (by rw [← of_decide_eq_true hlen, (mapO_is h1).1]) (sole_no hne) (swap_is ok hs hsw), a2⟩
theorem for_ok (hC : OkC w k C) (hnd : c.ns.Nodup) {n : Nat} (ih : ∀ st, OkS C F w (k + 9) c st (cS n c st)) {t iter : PySem.Expr} {b : List PySem.Stmt} {pos : Pos} {m : MS} (hg : notSet iter = true) (h : cForT (fun b => .of (b.map (cS n c))) c t iter b = some m) : OkS C F w (k + 9) c (.For t iter b [] pos) m := by
  have hset : ∀ (env : Env) xx, foldedSetIterable iter env xx = pure xx := fun env xx => by cases iter <;> first | rfl | (cases hg; done)
  cases t <;> first | (cases (show (none : Option MS) = some m from h); done) | skip
  · rename_i x px
    obtain ⟨i, it, h1, h2, rfl⟩ := opt2_is h
    intro env ok hs Λ σ o hl he
    obtain ⟨vs, e1, he⟩ := bind_is he
    obtain ⟨bd, hI⟩ := iterM_sound hC ok hs h2 e1
    obtain ⟨b1, b2⟩ := forM_sound (w := w) (k := k + 9) (env := env) (t := .Name x px) (asg := fun v Λ => some (Λ.set i (some v))) (fun v Λ Λ' σ hl ha => by
      obtain rfl := Option.some.inj ha
      exact ⟨.name ok (slot_of hs hnd hl h1).1, set_len hl⟩) (fun Λ σ o hl h => okB_of ih _ env ok hs _ _ _ hl h) hl he
    exact ⟨.for hI b1 (hset env), b2⟩
  · rename_i ts tk tp
    obtain ⟨g2, h⟩ := guardO_is h
    obtain ⟨is, it, h1, h2, rfl⟩ := opt2_is h
    intro env ok hs Λ σ o hl he
    obtain ⟨vs, e1, he⟩ := bind_is he
    obtain ⟨bd, hI⟩ := iterM_sound hC ok hs h2 e1
    obtain ⟨b1, b2⟩ := forM_sound (w := w) (k := k + 9) (env := env) (t := .Tuple ts tk tp) (asg := fun v Λ => (asTup v).bind fun xs => setN is xs Λ) (fun v Λ Λ' σ hl ha => by
      obtain ⟨xs, hx, ha⟩ := bind_is ha
      obtain ⟨a1, a2, a3⟩ := setN_sound (w := w) (k := k + 9) (σ := σ) ok hs hnd h1 g2 hl ha
      rw [asTup_is hx]
      exact ⟨.tup a1 a3 g2, a2⟩) (fun Λ σ o hl h => okB_of ih _ env ok hs _ _ _ hl h) hl he
    exact ⟨.for hI b1 (hset env), b2⟩
theorem cS_sound (hC : OkC w k C) (hnd : c.ns.Nodup) : ∀ (n : Nat) (st : PySem.Stmt), OkS C F w (k + 9) c st (cS n c st) := by
  intro n
  induction n with
  | zero => intro st; exact stuck_no
  | succ n ih =>
    have sx := fun e m h => (cX_sound hC 40).1 c e m h
    have sT := fun e m h => (cX_sound hC 40).2.1 c e m h
    intro st
    show OkS C F w (k + 9) c st ((stepS (fun b => .of (b.map (cS n c))) c st).getD .stuck)
    refine getD_is fun m h => ?_
    cases st <;> first | (cases (show (none : Option MS) = some m from h); done) | skip
    · obtain ⟨e, hv, h⟩ := bind_is (show Option.bind _ _ = some m from h)
      subst hv
      obtain ⟨x, h1, rfl⟩ := opt1_is h
      intro env ok hs Λ σ o hl he
      obtain ⟨v, hv, rfl⟩ := map_is he
      exact ⟨.ret (sx _ _ h1 env ok hs _ _ v hv), trivial⟩
    · obtain ⟨t, ht, h⟩ := bind_is (show Option.bind _ _ = some m from h)
      obtain ⟨hg, h⟩ := guardO_is h
      rw [single_is ht]
      exact asg_ok hC hnd hg h
    · obtain ⟨x, hx, h⟩ := bind_is (show Option.bind _ _ = some m from h)
      obtain ⟨p, rfl⟩ := nameOf_is hx
      obtain ⟨hg, h⟩ := guardO_is h
      obtain rfl := of_decide_eq_true hg
      obtain ⟨i, x, h1, h2, rfl⟩ := opt2_is h
      intro env ok hs Λ σ o hl he
      obtain ⟨u, hu, he⟩ := bind_is he
      obtain ⟨a, ha, he⟩ := bind_is he
      obtain ⟨v, hv, he⟩ := bind_is he
      obtain ⟨b, hb, rfl⟩ := map_is he
      obtain ⟨s1, s2, s3⟩ := slot_of hs hnd hl h1
      have E₁ := sx _ _ h2 env ok hs _ _ v hv
      rw [asInt_is hb] at E₁
      rw [asInt_is ha] at hu
      exact ⟨.aug ok s1 (lget_is hu) E₁ s3, set_len hl⟩
    · obtain ⟨hg, h'⟩ := guardO_is (show guardO _ _ = some m from h)
      obtain ⟨g1, g2⟩ := Bool.and_eq_true_iff.mp hg
      obtain rfl := List.isEmpty_iff.mp g1
      exact for_ok hC hnd ih g2 h'
    · obtain ⟨hg, h⟩ := guardO_is (show guardO _ _ = some m from h)
      obtain rfl := List.isEmpty_iff.mp hg
      obtain ⟨x, h1, rfl⟩ := opt1_is h
      intro env ok hs Λ σ o hl he
      obtain ⟨⟨n', b1⟩, b2⟩ := whileM_sound (w := w) (k := k + 9) (env := env) (fun Λ σ r t e ht => sT _ _ h1 env ok hs _ _ r t e ht) (fun Λ σ o hl h => okB_of ih _ env ok hs _ _ _ hl h) hl he
      exact ⟨.while b1, b2⟩
    · obtain ⟨x, h1, rfl⟩ := opt1_is (show opt1 _ _ = some m from h)
      intro env ok hs Λ σ o hl he
      obtain ⟨v, h₁, he⟩ := bind_is he
      obtain ⟨t, hv, he⟩ := bind_is he
      rcases ifB_is he with ⟨rfl, he⟩ | ⟨rfl, he⟩
      · obtain ⟨b1, b2⟩ := okB_of ih _ env ok hs _ _ _ hl he
        exact ⟨.ite (sT _ _ h1 env ok hs _ _ v _ h₁ hv) (fun _ => b1) (fun q => (by cases q)), b2⟩
      · obtain ⟨b1, b2⟩ := okB_of ih _ env ok hs _ _ _ hl he
        exact ⟨.ite (sT _ _ h1 env ok hs _ _ v _ h₁ hv) (fun q => (by cases q)) (fun _ => b1), b2⟩
    · obtain ⟨hg, h⟩ := guardO_is (show guardO _ _ = some m from h)
      obtain ⟨x, h1, rfl⟩ := opt1_is h
      intro env ok hs Λ σ o hl he
      obtain ⟨v, hv, he⟩ := bind_is he
      obtain ⟨hn, he⟩ := guardO_is he
      obtain rfl := Option.some.inj he
      have hv1 : v.1 = .none := by cases q : v.1 <;> rw [q] at hn <;> first | rfl | cases hn
      have E₁ := sx _ _ h1 env ok hs _ _ v hv
      rw [hv1] at E₁
      exact ⟨.expr E₁ (fun h ρ u r a => by rw [none_rep r]; simp) ok.k (swaps_no hg), hl⟩

/-! ## functions -/
structure FnGood (w : World) (a : Addr) (f : Fn) : Prop where
  is : ∃ (st : Stmt) (qual : Str), FunAt w a st qual (psOf st) (nsOf st) ∧ compile st = f
theorem start_len {args : List V} {n : Nat} (h : args.length ≤ n) : (start args n).length = n := by
  unfold start
  simp; lia
theorem callM_sound {prog : Nat → Option Fn} (hp : ∀ a f, prog a = some f → FnGood w a f) : ∀ d, OkC w (10 * d) (callM prog F d) := by
  intro d
  induction d with
  | zero => intro f args σ v σ' h; cases h
  | succ d ih =>
    intro a args σ v σ' h
    obtain ⟨f, hf, h⟩ := bind_is h
    obtain ⟨hn, h⟩ := guardO_is h
    obtain ⟨o, ho, hv⟩ := map_is h
    obtain ⟨st, qual, F', rfl⟩ := (hp _ _ hf).is
    have hps : args.length = (psOf st).length := of_decide_eq_true hn
    have hle : args.length ≤ (nsOf st).length := by rw [hps]; unfold nsOf; simp
    refine call_sound (k := 10 * d + 9) F' hps (fun env ok hs => ?_) hv
    exact (okB_of (cS_sound ih F'.nd 12) (fBody st) env ok hs _ _ _ (start_len hle) ho).1
end
end Mine
namespace Mine

noncomputable def stat (s : Stmt) : Bool := decide ((fScope s).kind = .function) && !(fScope s).isCoroutine && !(fScope s).isGenerator && decide (nsOf s).Nodup && (psOf s).all (fun x => decide ((fScope s).names.lookup x = some .local) || decide ((fScope s).names.lookup x = some .cell))
noncomputable def codeName (o : Obj) : Option Str := match o.data with
  | Data.fields vs => (match vs[1]? with
    | some (Value.str q _) => some q
    | _ => none)
  | _ => none
theorem good_of {w : World} {a c : Addr} {s : Stmt} {name qual : String} {pm : Value} {f : Fn} (h1 : (H1 w.params).get? a = some { cls := .type "function", data := .func (fdOf s name qual pm (R c) 3) })
    (h2 : ((H1 w.params).get? c).bind codeName = some (Str.ofString qual)) (h3 : stat s = true) (hb : ∀ vs : List Value, vs.length = (psOf s).length → bindArgs (fdOf s name qual pm (R c) 3) ⟨vs, []⟩ = pure ((psOf s).zip vs)) (hc : compile s = f) : FnGood w a f := by
  simp only [stat, Bool.and_eq_true, decide_eq_true_eq, Bool.not_eq_true', List.all_eq_true, Bool.or_eq_true] at h3
  obtain ⟨⟨⟨⟨s1, s2⟩, s3⟩, s4⟩, s5⟩ := h3
  obtain ⟨o, ho, hn⟩ := Option.bind_eq_some_iff.mp h2
  refine ⟨s, Str.ofString qual, ⟨⟨_, _, h1, rfl, ?_, rfl, rfl, rfl, rfl, rfl, hb⟩, s1, s2, s3, s4, ⟨_, rfl⟩, s5⟩, hc⟩
  unfold codeName at hn
  split at hn
  · rename_i vs hd
    split at hn
    · rename_i q t hq
      cases hn
      exact ⟨c, o, vs, t, rfl, ho, hd, hq⟩
    · cases hn
  · cases hn
theorem len0 {vs : List Value} (h : vs.length = 0) : vs = [] := List.length_eq_zero_iff.mp h
theorem len1 {vs : List Value} (h : vs.length = 1) : ∃ a, vs = [a] := List.length_eq_one_iff.mp h
theorem len2 {vs : List Value} (h : vs.length = 2) : ∃ a b, vs = [a, b] := by
  obtain ⟨a, r, rfl⟩ := List.exists_cons_of_length_eq_add_one h
  obtain ⟨b, rfl⟩ := len1 (Nat.succ.inj h)
  exact ⟨a, b, rfl⟩
theorem len3 {vs : List Value} (h : vs.length = 3) : ∃ a b c, vs = [a, b, c] := by
  obtain ⟨a, r, rfl⟩ := List.exists_cons_of_length_eq_add_one h
  obtain ⟨b, c, rfl⟩ := len2 (Nat.succ.inj h)
  exact ⟨a, b, c, rfl⟩
theorem len4 {vs : List Value} (h : vs.length = 4) : ∃ a b c d, vs = [a, b, c, d] := by
  obtain ⟨a, r, rfl⟩ := List.exists_cons_of_length_eq_add_one h
  obtain ⟨b, c, d, rfl⟩ := len3 (Nat.succ.inj h)
  exact ⟨a, b, c, d, rfl⟩
theorem len5 {vs : List Value} (h : vs.length = 5) : ∃ a b c d e, vs = [a, b, c, d, e] := by
  obtain ⟨a, r, rfl⟩ := List.exists_cons_of_length_eq_add_one h
  obtain ⟨b, c, d, e, rfl⟩ := len4 (Nat.succ.inj h)
  exact ⟨a, b, c, d, e, rfl⟩

noncomputable def lc_width_0 : MX := (.cmp .GtE (.loc 0) (.bin .LShift (.cst (.int (1))) (.cst (.int (64)))))
noncomputable def lb_width_0 : MB := (.cons (.set 0 (.bin .RShift (.loc 0) (.cst (.int (64))))) (.cons (.set 1 (.bin .Add (.loc 1) (.cst (.int (64))))) .nil))
noncomputable def lb_width_1 : MB := (.cons (.ite (.cmp .GtE (.loc 0) (.bin .LShift (.cst (.int (1))) (.loc 2))) (.cons (.set 0 (.bin .RShift (.loc 0) (.loc 2))) (.cons (.set 1 (.bin .Add (.loc 1) (.loc 2))) .nil)) .nil) .nil)
noncomputable def p_width : Fn := ⟨1, 3,
    (.cons (.set 1 (.cst (.int (0)))) (.cons (.loop lc_width_0 lb_width_0) (.cons (.for1 2 (.val (.tup (.cons (.cst (.int (32))) (.cons (.cst (.int (16))) (.cons (.cst (.int (8))) (.cons (.cst (.int (4))) (.cons (.cst (.int (2))) (.cons (.cst (.int (1))) .nil)))))))) lb_width_1) (.cons (.ret (.bin .Add (.loc 1) (.loc 0))) .nil))))⟩
theorem c_width : compile (st 11) = p_width := by kernel_rfl
theorem b_width : ∀ vs : List Value, vs.length = (psOf (st 11)).length → bindArgs (fdOf (st 11) "width" "width" (S "js.dbits" 187) (R 20) 3) ⟨vs, []⟩ = pure ((psOf (st 11)).zip vs) := fun vs h => by
  rw [show (psOf (st 11)).length = 1 by kernel_rfl] at h
  obtain ⟨v1, rfl⟩ := len1 h
  kernel_rfl
theorem g_width (w : World) : FnGood w 21 p_width := good_of (s := (st 11)) (name := "width") (qual := "width") (pm := (S "js.dbits" 187)) (c := 20) (by kernel_rfl) (by kernel_rfl) (by kernel_rfl) b_width c_width
noncomputable def p_pack : Fn := ⟨3, 3,
    (.cons (.ret (.bin .BitOr (.bin .BitOr (.bin .LShift (.loc 0) (.cst (.int (63)))) (.bin .LShift (.loc 1) (.cst (.int (52))))) (.loc 2))) .nil)⟩
theorem c_pack : compile (st 12) = p_pack := by kernel_rfl
theorem b_pack : ∀ vs : List Value, vs.length = (psOf (st 12)).length → bindArgs (fdOf (st 12) "pack" "pack" (S "js.dbits" 187) (R 27) 3) ⟨vs, []⟩ = pure ((psOf (st 12)).zip vs) := fun vs h => by
  rw [show (psOf (st 12)).length = 3 by kernel_rfl] at h
  obtain ⟨v1, v2, v3, rfl⟩ := len3 h
  kernel_rfl
theorem g_pack (w : World) : FnGood w 28 p_pack := good_of (s := (st 12)) (name := "pack") (qual := "pack") (pm := (S "js.dbits" 187)) (c := 27) (by kernel_rfl) (by kernel_rfl) (by kernel_rfl) b_pack c_pack
noncomputable def p_is_negative : Fn := ⟨1, 1,
    (.cons (.ret (.cmp .Eq (.bin .RShift (.loc 0) (.cst (.int (63)))) (.cst (.int (1))))) .nil)⟩
theorem c_is_negative : compile (st 13) = p_is_negative := by kernel_rfl
theorem b_is_negative : ∀ vs : List Value, vs.length = (psOf (st 13)).length → bindArgs (fdOf (st 13) "is_negative" "is_negative" (S "js.dbits" 187) (R 34) 3) ⟨vs, []⟩ = pure ((psOf (st 13)).zip vs) := fun vs h => by
  rw [show (psOf (st 13)).length = 1 by kernel_rfl] at h
  obtain ⟨v1, rfl⟩ := len1 h
  kernel_rfl
theorem g_is_negative (w : World) : FnGood w 35 p_is_negative := good_of (s := (st 13)) (name := "is_negative") (qual := "is_negative") (pm := (S "js.dbits" 187)) (c := 34) (by kernel_rfl) (by kernel_rfl) (by kernel_rfl) b_is_negative c_is_negative
noncomputable def p_is_nan : Fn := ⟨1, 1,
    (.cons (.ret (.cmp .Gt (.bin .BitAnd (.loc 0) (.bin .Sub (.cst (.int (9223372036854775808))) (.cst (.int (1))))) (.cst (.int (9218868437227405312))))) .nil)⟩
theorem c_is_nan : compile (st 14) = p_is_nan := by kernel_rfl
theorem b_is_nan : ∀ vs : List Value, vs.length = (psOf (st 14)).length → bindArgs (fdOf (st 14) "is_nan" "is_nan" (S "js.dbits" 187) (R 41) 3) ⟨vs, []⟩ = pure ((psOf (st 14)).zip vs) := fun vs h => by
  rw [show (psOf (st 14)).length = 1 by kernel_rfl] at h
  obtain ⟨v1, rfl⟩ := len1 h
  kernel_rfl
theorem g_is_nan (w : World) : FnGood w 42 p_is_nan := good_of (s := (st 14)) (name := "is_nan") (qual := "is_nan") (pm := (S "js.dbits" 187)) (c := 41) (by kernel_rfl) (by kernel_rfl) (by kernel_rfl) b_is_nan c_is_nan
noncomputable def p_is_inf : Fn := ⟨1, 1,
    (.cons (.ret (.cmp .Eq (.bin .BitAnd (.loc 0) (.bin .Sub (.cst (.int (9223372036854775808))) (.cst (.int (1))))) (.cst (.int (9218868437227405312))))) .nil)⟩
theorem c_is_inf : compile (st 15) = p_is_inf := by kernel_rfl
theorem b_is_inf : ∀ vs : List Value, vs.length = (psOf (st 15)).length → bindArgs (fdOf (st 15) "is_inf" "is_inf" (S "js.dbits" 187) (R 48) 3) ⟨vs, []⟩ = pure ((psOf (st 15)).zip vs) := fun vs h => by
  rw [show (psOf (st 15)).length = 1 by kernel_rfl] at h
  obtain ⟨v1, rfl⟩ := len1 h
  kernel_rfl
theorem g_is_inf (w : World) : FnGood w 49 p_is_inf := good_of (s := (st 15)) (name := "is_inf") (qual := "is_inf") (pm := (S "js.dbits" 187)) (c := 48) (by kernel_rfl) (by kernel_rfl) (by kernel_rfl) b_is_inf c_is_inf
noncomputable def p_is_finite : Fn := ⟨1, 1,
    (.cons (.ret (.cmp .Lt (.bin .BitAnd (.loc 0) (.bin .Sub (.cst (.int (9223372036854775808))) (.cst (.int (1))))) (.cst (.int (9218868437227405312))))) .nil)⟩
theorem c_is_finite : compile (st 16) = p_is_finite := by kernel_rfl
theorem b_is_finite : ∀ vs : List Value, vs.length = (psOf (st 16)).length → bindArgs (fdOf (st 16) "is_finite" "is_finite" (S "js.dbits" 187) (R 55) 3) ⟨vs, []⟩ = pure ((psOf (st 16)).zip vs) := fun vs h => by
  rw [show (psOf (st 16)).length = 1 by kernel_rfl] at h
  obtain ⟨v1, rfl⟩ := len1 h
  kernel_rfl
theorem g_is_finite (w : World) : FnGood w 56 p_is_finite := good_of (s := (st 16)) (name := "is_finite") (qual := "is_finite") (pm := (S "js.dbits" 187)) (c := 55) (by kernel_rfl) (by kernel_rfl) (by kernel_rfl) b_is_finite c_is_finite
noncomputable def p_is_zero : Fn := ⟨1, 1,
    (.cons (.ret (.cmp .Eq (.bin .BitAnd (.loc 0) (.bin .Sub (.cst (.int (9223372036854775808))) (.cst (.int (1))))) (.cst (.int (0))))) .nil)⟩
theorem c_is_zero : compile (st 17) = p_is_zero := by kernel_rfl
theorem b_is_zero : ∀ vs : List Value, vs.length = (psOf (st 17)).length → bindArgs (fdOf (st 17) "is_zero" "is_zero" (S "js.dbits" 187) (R 62) 3) ⟨vs, []⟩ = pure ((psOf (st 17)).zip vs) := fun vs h => by
  rw [show (psOf (st 17)).length = 1 by kernel_rfl] at h
  obtain ⟨v1, rfl⟩ := len1 h
  kernel_rfl
theorem g_is_zero (w : World) : FnGood w 63 p_is_zero := good_of (s := (st 17)) (name := "is_zero") (qual := "is_zero") (pm := (S "js.dbits" 187)) (c := 62) (by kernel_rfl) (by kernel_rfl) (by kernel_rfl) b_is_zero c_is_zero
noncomputable def p_signed : Fn := ⟨2, 2,
    (.cons (.ret (.bin .BitOr (.bin .BitAnd (.loc 1) (.bin .Sub (.cst (.int (9223372036854775808))) (.cst (.int (1))))) (.bin .LShift (.loc 0) (.cst (.int (63)))))) .nil)⟩
theorem c_signed : compile (st 18) = p_signed := by kernel_rfl
theorem b_signed : ∀ vs : List Value, vs.length = (psOf (st 18)).length → bindArgs (fdOf (st 18) "signed" "signed" (S "js.dbits" 187) (R 69) 3) ⟨vs, []⟩ = pure ((psOf (st 18)).zip vs) := fun vs h => by
  rw [show (psOf (st 18)).length = 2 by kernel_rfl] at h
  obtain ⟨v1, v2, rfl⟩ := len2 h
  kernel_rfl
theorem g_signed (w : World) : FnGood w 70 p_signed := good_of (s := (st 18)) (name := "signed") (qual := "signed") (pm := (S "js.dbits" 187)) (c := 69) (by kernel_rfl) (by kernel_rfl) (by kernel_rfl) b_signed c_signed
noncomputable def p_parts : Fn := ⟨1, 4,
    (.cons (.swap [1, 2, 3] (.tup (.cons (.bin .RShift (.loc 0) (.cst (.int (63)))) (.cons (.bin .BitAnd (.bin .RShift (.loc 0) (.cst (.int (52)))) (.cst (.int (2047)))) (.cons (.bin .BitAnd (.loc 0) (.cst (.int (4503599627370495)))) .nil))))) (.cons (.ite (.cmp .Eq (.loc 2) (.cst (.int (0)))) (.cons (.ret (.tup (.cons (.loc 1) (.cons (.loc 3) (.cons (.cst (.int (-1074))) .nil))))) .nil) .nil) (.cons (.ret (.tup (.cons (.loc 1) (.cons (.bin .BitOr (.loc 3) (.cst (.int (4503599627370496)))) (.cons (.bin .Sub (.loc 2) (.cst (.int (1075)))) .nil))))) .nil)))⟩
theorem c_parts : compile (st 19) = p_parts := by kernel_rfl
theorem b_parts : ∀ vs : List Value, vs.length = (psOf (st 19)).length → bindArgs (fdOf (st 19) "parts" "parts" (S "js.dbits" 187) (R 76) 3) ⟨vs, []⟩ = pure ((psOf (st 19)).zip vs) := fun vs h => by
  rw [show (psOf (st 19)).length = 1 by kernel_rfl] at h
  obtain ⟨v1, rfl⟩ := len1 h
  kernel_rfl
theorem g_parts (w : World) : FnGood w 77 p_parts := good_of (s := (st 19)) (name := "parts") (qual := "parts") (pm := (S "js.dbits" 187)) (c := 76) (by kernel_rfl) (by kernel_rfl) (by kernel_rfl) b_parts c_parts
noncomputable def p_quotient : Fn := ⟨3, 3,
    (.cons (.ite (.cmp .GtE (.loc 2) (.cst (.int (0)))) (.cons (.set 1 (.bin .LShift (.loc 1) (.loc 2))) .nil) (.cons (.set 0 (.bin .LShift (.loc 0) (.neg (.loc 2)))) .nil)) (.cons (.ret (.tup (.cons (.bin .FloorDiv (.loc 0) (.loc 1)) (.cons (.bin .Mod (.loc 0) (.loc 1)) (.cons (.loc 1) .nil))))) .nil))⟩
theorem c_quotient : compile (st 20) = p_quotient := by kernel_rfl
theorem b_quotient : ∀ vs : List Value, vs.length = (psOf (st 20)).length → bindArgs (fdOf (st 20) "quotient" "quotient" (S "js.dbits" 187) (R 83) 3) ⟨vs, []⟩ = pure ((psOf (st 20)).zip vs) := fun vs h => by
  rw [show (psOf (st 20)).length = 3 by kernel_rfl] at h
  obtain ⟨v1, v2, v3, rfl⟩ := len3 h
  kernel_rfl
theorem g_quotient (w : World) : FnGood w 84 p_quotient := good_of (s := (st 20)) (name := "quotient") (qual := "quotient") (pm := (S "js.dbits" 187)) (c := 83) (by kernel_rfl) (by kernel_rfl) (by kernel_rfl) b_quotient c_quotient
noncomputable def p_round_ratio : Fn := ⟨3, 7,
    (.cons (.ite (.cmp .Eq (.loc 1) (.cst (.int (0)))) (.cons (.ret (.bin .LShift (.loc 0) (.cst (.int (63))))) .nil) .nil) (.cons (.set 3 (.bi 4 (.cons (.bin .Sub (.bin .Sub (.call 21 (.cons (.loc 1) .nil)) (.call 21 (.cons (.loc 2) .nil))) (.cst (.int (53)))) (.cons (.cst (.int (-1074))) .nil)))) (.cons (.tset [.loc 4, .loc 5, .loc 6] (.call 84 (.cons (.loc 1) (.cons (.loc 2) (.cons (.loc 3) .nil))))) (.cons (.ite (.cmp .GtE (.loc 4) (.bin .LShift (.cst (.int (4503599627370496))) (.cst (.int (1))))) (.cons (.set 3 (.bin .Add (.loc 3) (.cst (.int (1))))) (.cons (.tset [.loc 4, .loc 5, .loc 6] (.call 84 (.cons (.loc 1) (.cons (.loc 2) (.cons (.loc 3) .nil))))) .nil)) .nil) (.cons (.ite (.or (.cmp .Gt (.bin .Mult (.cst (.int (2))) (.loc 5)) (.loc 6)) (.and (.cmp .Eq (.bin .Mult (.cst (.int (2))) (.loc 5)) (.loc 6)) (.cmp .Eq (.bin .Mod (.loc 4) (.cst (.int (2)))) (.cst (.int (1)))))) (.cons (.set 4 (.bin .Add (.loc 4) (.cst (.int (1))))) .nil) .nil) (.cons (.ret (.call 98 (.cons (.loc 0) (.cons (.loc 4) (.cons (.loc 3) .nil))))) .nil))))))⟩
theorem c_round_ratio : compile (st 21) = p_round_ratio := by kernel_rfl
theorem b_round_ratio : ∀ vs : List Value, vs.length = (psOf (st 21)).length → bindArgs (fdOf (st 21) "round_ratio" "round_ratio" (S "js.dbits" 187) (R 90) 3) ⟨vs, []⟩ = pure ((psOf (st 21)).zip vs) := fun vs h => by
  rw [show (psOf (st 21)).length = 3 by kernel_rfl] at h
  obtain ⟨v1, v2, v3, rfl⟩ := len3 h
  kernel_rfl
theorem g_round_ratio (w : World) : FnGood w 91 p_round_ratio := good_of (s := (st 21)) (name := "round_ratio") (qual := "round_ratio") (pm := (S "js.dbits" 187)) (c := 90) (by kernel_rfl) (by kernel_rfl) (by kernel_rfl) b_round_ratio c_round_ratio
noncomputable def p_assembled : Fn := ⟨3, 4,
    (.cons (.ite (.cmp .Eq (.loc 1) (.bin .LShift (.cst (.int (4503599627370496))) (.cst (.int (1))))) (.cons (.swap [1, 2] (.tup (.cons (.cst (.int (4503599627370496))) (.cons (.bin .Add (.loc 2) (.cst (.int (1)))) .nil)))) .nil) .nil) (.cons (.ite (.cmp .Lt (.loc 1) (.cst (.int (4503599627370496)))) (.cons (.ret (.bin .BitOr (.bin .LShift (.loc 0) (.cst (.int (63)))) (.loc 1))) .nil) .nil) (.cons (.set 3 (.bin .Add (.loc 2) (.cst (.int (1075))))) (.cons (.ite (.cmp .GtE (.loc 3) (.cst (.int (2047)))) (.cons (.ret (.call 70 (.cons (.loc 0) (.cons (.cst (.int (9218868437227405312))) .nil)))) .nil) .nil) (.cons (.ret (.call 28 (.cons (.loc 0) (.cons (.loc 3) (.cons (.bin .Sub (.loc 1) (.cst (.int (4503599627370496)))) .nil))))) .nil)))))⟩
theorem c_assembled : compile (st 22) = p_assembled := by kernel_rfl
theorem b_assembled : ∀ vs : List Value, vs.length = (psOf (st 22)).length → bindArgs (fdOf (st 22) "assembled" "assembled" (S "js.dbits" 187) (R 97) 3) ⟨vs, []⟩ = pure ((psOf (st 22)).zip vs) := fun vs h => by
  rw [show (psOf (st 22)).length = 3 by kernel_rfl] at h
  obtain ⟨v1, v2, v3, rfl⟩ := len3 h
  kernel_rfl
theorem g_assembled (w : World) : FnGood w 98 p_assembled := good_of (s := (st 22)) (name := "assembled") (qual := "assembled") (pm := (S "js.dbits" 187)) (c := 97) (by kernel_rfl) (by kernel_rfl) (by kernel_rfl) b_assembled c_assembled
noncomputable def p_figure_of : Fn := ⟨1, 1,
    (.cons (.ite (.chain .LtE .LtE (.cst (.str [48])) (.loc 0) (.cst (.str [57]))) (.cons (.ret (.bin .Sub (.bi 1 (.cons (.loc 0) .nil)) (.cst (.int (48))))) .nil) .nil) (.cons (.ite (.chain .LtE .LtE (.cst (.str [97])) (.loc 0) (.cst (.str [122]))) (.cons (.ret (.bin .Sub (.bi 1 (.cons (.loc 0) .nil)) (.cst (.int (87))))) .nil) .nil) (.cons (.ret (.ite (.chain .LtE .LtE (.cst (.str [65])) (.loc 0) (.cst (.str [90]))) (.bin .Sub (.bi 1 (.cons (.loc 0) .nil)) (.cst (.int (55)))) (.cst (.int (36))))) .nil)))⟩
theorem c_figure_of : compile (st 25) = p_figure_of := by kernel_rfl
theorem b_figure_of : ∀ vs : List Value, vs.length = (psOf (st 25)).length → bindArgs (fdOf (st 25) "figure_of" "figure_of" (S "js.numparse" 325) (R 104) 3) ⟨vs, []⟩ = pure ((psOf (st 25)).zip vs) := fun vs h => by
  rw [show (psOf (st 25)).length = 1 by kernel_rfl] at h
  obtain ⟨v1, rfl⟩ := len1 h
  kernel_rfl
theorem g_figure_of (w : World) : FnGood w 105 p_figure_of := good_of (s := (st 25)) (name := "figure_of") (qual := "figure_of") (pm := (S "js.numparse" 325)) (c := 104) (by kernel_rfl) (by kernel_rfl) (by kernel_rfl) b_figure_of c_figure_of
noncomputable def lc_run_end_0 : MX := (.and (.cmp .Lt (.loc 1) (.bi 0 (.cons (.loc 0) .nil))) (.cmp .Lt (.call 105 (.cons (.item (.loc 0) (.loc 1)) .nil)) (.loc 2)))
noncomputable def lb_run_end_0 : MB := (.cons (.aug 1 (.cst (.int (1)))) .nil)
noncomputable def p_run_end : Fn := ⟨3, 3,
    (.cons (.loop lc_run_end_0 lb_run_end_0) (.cons (.ret (.loc 1)) .nil))⟩
theorem c_run_end : compile (st 26) = p_run_end := by kernel_rfl
theorem b_run_end : ∀ vs : List Value, vs.length = (psOf (st 26)).length → bindArgs (fdOf (st 26) "run_end" "run_end" (S "js.numparse" 325) (R 111) 3) ⟨vs, []⟩ = pure ((psOf (st 26)).zip vs) := fun vs h => by
  rw [show (psOf (st 26)).length = 3 by kernel_rfl] at h
  obtain ⟨v1, v2, v3, rfl⟩ := len3 h
  kernel_rfl
theorem g_run_end (w : World) : FnGood w 112 p_run_end := good_of (s := (st 26)) (name := "run_end") (qual := "run_end") (pm := (S "js.numparse" 325)) (c := 111) (by kernel_rfl) (by kernel_rfl) (by kernel_rfl) b_run_end c_run_end
noncomputable def lb_worth_0 : MB := (.cons (.set 4 (.bin .Add (.bin .Mult (.loc 4) (.loc 3)) (.call 105 (.cons (.item (.loc 0) (.loc 5)) .nil)))) .nil)
noncomputable def p_worth : Fn := ⟨4, 6,
    (.cons (.set 4 (.cst (.int (0)))) (.cons (.for1 5 (.range (.loc 1) (.loc 2)) lb_worth_0) (.cons (.ret (.loc 4)) .nil)))⟩
theorem c_worth : compile (st 27) = p_worth := by kernel_rfl
theorem b_worth : ∀ vs : List Value, vs.length = (psOf (st 27)).length → bindArgs (fdOf (st 27) "worth" "worth" (S "js.numparse" 325) (R 118) 3) ⟨vs, []⟩ = pure ((psOf (st 27)).zip vs) := fun vs h => by
  rw [show (psOf (st 27)).length = 4 by kernel_rfl] at h
  obtain ⟨v1, v2, v3, v4, rfl⟩ := len4 h
  kernel_rfl
theorem g_worth (w : World) : FnGood w 119 p_worth := good_of (s := (st 27)) (name := "worth") (qual := "worth") (pm := (S "js.numparse" 325)) (c := 118) (by kernel_rfl) (by kernel_rfl) (by kernel_rfl) b_worth c_worth
noncomputable def p_from_decimal : Fn := ⟨2, 5,
    (.cons (.set 2 (.lstrip (.loc 0) (.cst (.str [48])))) (.cons (.set 3 (.bin .Add (.bi 0 (.cons (.loc 2) .nil)) (.loc 1))) (.cons (.ite (.or (.cmp .Eq (.loc 2) (.cst (.str []))) (.cmp .Lt (.loc 3) (.bin .Sub (.cst (.int (0))) (.cst (.int (400)))))) (.cons (.ret (.cst (.int (0)))) .nil) .nil) (.cons (.ite (.cmp .Gt (.loc 3) (.cst (.int (400)))) (.cons (.ret (.cst (.int (9218868437227405312)))) .nil) .nil) (.cons (.set 4 (.call 119 (.cons (.loc 2) (.cons (.cst (.int (0))) (.cons (.bi 0 (.cons (.loc 2) .nil)) (.cons (.cst (.int (10))) .nil)))))) (.cons (.ite (.cmp .GtE (.loc 1) (.cst (.int (0)))) (.cons (.ret (.call 91 (.cons (.cst (.int (0))) (.cons (.bin .Mult (.loc 4) (.bin .Pow (.cst (.int (10))) (.loc 1))) (.cons (.cst (.int (1))) .nil))))) .nil) .nil) (.cons (.ret (.call 91 (.cons (.cst (.int (0))) (.cons (.loc 4) (.cons (.bin .Pow (.cst (.int (10))) (.bin .Sub (.cst (.int (0))) (.loc 1))) .nil))))) .nil)))))))⟩
theorem c_from_decimal : compile (st 28) = p_from_decimal := by kernel_rfl
theorem b_from_decimal : ∀ vs : List Value, vs.length = (psOf (st 28)).length → bindArgs (fdOf (st 28) "from_decimal" "from_decimal" (S "js.numparse" 325) (R 125) 3) ⟨vs, []⟩ = pure ((psOf (st 28)).zip vs) := fun vs h => by
  rw [show (psOf (st 28)).length = 2 by kernel_rfl] at h
  obtain ⟨v1, v2, rfl⟩ := len2 h
  kernel_rfl
theorem g_from_decimal (w : World) : FnGood w 126 p_from_decimal := good_of (s := (st 28)) (name := "from_decimal") (qual := "from_decimal") (pm := (S "js.numparse" 325)) (c := 125) (by kernel_rfl) (by kernel_rfl) (by kernel_rfl) b_from_decimal c_from_decimal
noncomputable def p_sign_at : Fn := ⟨2, 2,
    (.cons (.ite (.and (.cmp .Lt (.loc 1) (.bi 0 (.cons (.loc 0) .nil))) (.cmp .In (.item (.loc 0) (.loc 1)) (.cst (.str [43, 45])))) (.cons (.ret (.tup (.cons (.cmp .Eq (.item (.loc 0) (.loc 1)) (.cst (.str [45]))) (.cons (.bin .Add (.loc 1) (.cst (.int (1)))) .nil)))) .nil) .nil) (.cons (.ret (.tup (.cons (.cst (.bool false)) (.cons (.loc 1) .nil)))) .nil))⟩
theorem c_sign_at : compile (st 29) = p_sign_at := by kernel_rfl
theorem b_sign_at : ∀ vs : List Value, vs.length = (psOf (st 29)).length → bindArgs (fdOf (st 29) "sign_at" "sign_at" (S "js.numparse" 325) (R 132) 3) ⟨vs, []⟩ = pure ((psOf (st 29)).zip vs) := fun vs h => by
  rw [show (psOf (st 29)).length = 2 by kernel_rfl] at h
  obtain ⟨v1, v2, rfl⟩ := len2 h
  kernel_rfl
theorem g_sign_at (w : World) : FnGood w 133 p_sign_at := good_of (s := (st 29)) (name := "sign_at") (qual := "sign_at") (pm := (S "js.numparse" 325)) (c := 132) (by kernel_rfl) (by kernel_rfl) (by kernel_rfl) b_sign_at c_sign_at
noncomputable def p_turned : Fn := ⟨2, 2,
    (.cons (.ret (.ite (.loc 1) (.bin .BitXor (.loc 0) (.cst (.int (9223372036854775808)))) (.loc 0))) .nil)⟩
theorem c_turned : compile (st 30) = p_turned := by kernel_rfl
theorem b_turned : ∀ vs : List Value, vs.length = (psOf (st 30)).length → bindArgs (fdOf (st 30) "turned" "turned" (S "js.numparse" 325) (R 139) 3) ⟨vs, []⟩ = pure ((psOf (st 30)).zip vs) := fun vs h => by
  rw [show (psOf (st 30)).length = 2 by kernel_rfl] at h
  obtain ⟨v1, v2, rfl⟩ := len2 h
  kernel_rfl
theorem g_turned (w : World) : FnGood w 140 p_turned := good_of (s := (st 30)) (name := "turned") (qual := "turned") (pm := (S "js.numparse" 325)) (c := 139) (by kernel_rfl) (by kernel_rfl) (by kernel_rfl) b_turned c_turned
noncomputable def p_exponent_at : Fn := ⟨2, 6,
    (.cons (.ite (.or (.cmp .GtE (.loc 1) (.bi 0 (.cons (.loc 0) .nil))) (.cmp .NotIn (.item (.loc 0) (.loc 1)) (.cst (.str [101, 69])))) (.cons (.ret (.tup (.cons (.cst (.int (0))) (.cons (.loc 1) .nil)))) .nil) .nil) (.cons (.tset [.loc 2, .loc 3] (.call 133 (.cons (.loc 0) (.cons (.bin .Add (.loc 1) (.cst (.int (1)))) .nil)))) (.cons (.set 4 (.call 112 (.cons (.loc 0) (.cons (.loc 3) (.cons (.cst (.int (10))) .nil))))) (.cons (.ite (.cmp .Eq (.loc 4) (.loc 3)) (.cons (.ret (.tup (.cons (.cst (.int (0))) (.cons (.loc 1) .nil)))) .nil) .nil) (.cons (.set 5 (.bi 5 (.cons (.call 119 (.cons (.loc 0) (.cons (.loc 3) (.cons (.loc 4) (.cons (.cst (.int (10))) .nil))))) (.cons (.bin .Pow (.cst (.int (10))) (.cst (.int (9)))) .nil)))) (.cons (.ret (.tup (.cons (.ite (.loc 2) (.bin .Sub (.cst (.int (0))) (.loc 5)) (.loc 5)) (.cons (.loc 4) .nil)))) .nil))))))⟩
theorem c_exponent_at : compile (st 31) = p_exponent_at := by kernel_rfl
theorem b_exponent_at : ∀ vs : List Value, vs.length = (psOf (st 31)).length → bindArgs (fdOf (st 31) "exponent_at" "exponent_at" (S "js.numparse" 325) (R 146) 3) ⟨vs, []⟩ = pure ((psOf (st 31)).zip vs) := fun vs h => by
  rw [show (psOf (st 31)).length = 2 by kernel_rfl] at h
  obtain ⟨v1, v2, rfl⟩ := len2 h
  kernel_rfl
theorem g_exponent_at (w : World) : FnGood w 147 p_exponent_at := good_of (s := (st 31)) (name := "exponent_at") (qual := "exponent_at") (pm := (S "js.numparse" 325)) (c := 146) (by kernel_rfl) (by kernel_rfl) (by kernel_rfl) b_exponent_at c_exponent_at
noncomputable def p_json_sign : Fn := ⟨2, 2,
    (.cons (.ret (.slice (.loc 0) (.yes (.loc 1)) (.yes (.bin .Add (.loc 1) (.cst (.int (1))))))) .nil)⟩
theorem c_json_sign : compile (st 42) = p_json_sign := by kernel_rfl
theorem b_json_sign : ∀ vs : List Value, vs.length = (psOf (st 42)).length → bindArgs (fdOf (st 42) "json_sign" "json_sign" (S "js.jsonread" 429) (R 189) 3) ⟨vs, []⟩ = pure ((psOf (st 42)).zip vs) := fun vs h => by
  rw [show (psOf (st 42)).length = 2 by kernel_rfl] at h
  obtain ⟨v1, v2, rfl⟩ := len2 h
  kernel_rfl
theorem g_json_sign (w : World) : FnGood w 190 p_json_sign := good_of (s := (st 42)) (name := "json_sign") (qual := "json_sign") (pm := (S "js.jsonread" 429)) (c := 189) (by kernel_rfl) (by kernel_rfl) (by kernel_rfl) b_json_sign c_json_sign
noncomputable def lc_skip_json_blanks_0 : MX := (.and (.cmp .Lt (.loc 1) (.bi 0 (.cons (.loc 0) .nil))) (.cmp .In (.item (.loc 0) (.loc 1)) (.cst (.str [32, 9, 10, 13]))))
noncomputable def lb_skip_json_blanks_0 : MB := (.cons (.aug 1 (.cst (.int (1)))) .nil)
noncomputable def p_skip_json_blanks : Fn := ⟨2, 2,
    (.cons (.loop lc_skip_json_blanks_0 lb_skip_json_blanks_0) (.cons (.ret (.loc 1)) .nil))⟩
theorem c_skip_json_blanks : compile (st 43) = p_skip_json_blanks := by kernel_rfl
theorem b_skip_json_blanks : ∀ vs : List Value, vs.length = (psOf (st 43)).length → bindArgs (fdOf (st 43) "skip_json_blanks" "skip_json_blanks" (S "js.jsonread" 429) (R 196) 3) ⟨vs, []⟩ = pure ((psOf (st 43)).zip vs) := fun vs h => by
  rw [show (psOf (st 43)).length = 2 by kernel_rfl] at h
  obtain ⟨v1, v2, rfl⟩ := len2 h
  kernel_rfl
theorem g_skip_json_blanks (w : World) : FnGood w 197 p_skip_json_blanks := good_of (s := (st 43)) (name := "skip_json_blanks") (qual := "skip_json_blanks") (pm := (S "js.jsonread" 429)) (c := 196) (by kernel_rfl) (by kernel_rfl) (by kernel_rfl) b_skip_json_blanks c_skip_json_blanks
noncomputable def p_json_number : Fn := ⟨2, 10,
    (.cons (.set 2 (.cmp .Eq (.call 190 (.cons (.loc 0) (.cons (.loc 1) .nil))) (.cst (.str [45])))) (.cons (.set 3 (.ite (.loc 2) (.bin .Add (.loc 1) (.cst (.int (1)))) (.loc 1))) (.cons (.set 4 (.call 112 (.cons (.loc 0) (.cons (.loc 3) (.cons (.cst (.int (10))) .nil))))) (.cons (.ite (.or (.cmp .Eq (.loc 4) (.loc 3)) (.and (.cmp .Eq (.item (.loc 0) (.loc 3)) (.cst (.str [48]))) (.cmp .Gt (.loc 4) (.bin .Add (.loc 3) (.cst (.int (1))))))) (.cons .stuck .nil) .nil) (.cons (.swap [5, 6, 7] (.tup (.cons (.slice (.loc 0) (.yes (.loc 3)) (.yes (.loc 4))) (.cons (.loc 4) (.cons (.cst (.int (0))) .nil))))) (.cons (.ite (.cmp .Eq (.call 190 (.cons (.loc 0) (.cons (.loc 4) .nil))) (.cst (.str [46]))) (.cons (.set 6 (.call 112 (.cons (.loc 0) (.cons (.bin .Add (.loc 4) (.cst (.int (1)))) (.cons (.cst (.int (10))) .nil))))) (.cons (.ite (.cmp .Eq (.loc 6) (.bin .Add (.loc 4) (.cst (.int (1))))) (.cons .stuck .nil) .nil) (.cons (.swap [5, 7] (.tup (.cons (.bin .Add (.loc 5) (.slice (.loc 0) (.yes (.bin .Add (.loc 4) (.cst (.int (1))))) (.yes (.loc 6)))) (.cons (.bin .Sub (.bin .Sub (.loc 6) (.loc 4)) (.cst (.int (1)))) .nil)))) .nil))) .nil) (.cons (.tset [.loc 8, .loc 9] (.call 147 (.cons (.loc 0) (.cons (.loc 6) .nil)))) (.cons (.ret (.tup (.cons (.call 140 (.cons (.call 126 (.cons (.loc 5) (.cons (.bin .Sub (.loc 8) (.loc 7)) .nil))) (.cons (.loc 2) .nil))) (.cons (.loc 9) .nil)))) .nil))))))))⟩
theorem c_json_number : compile (st 44) = p_json_number := by kernel_rfl
theorem b_json_number : ∀ vs : List Value, vs.length = (psOf (st 44)).length → bindArgs (fdOf (st 44) "json_number" "json_number" (S "js.jsonread" 429) (R 203) 3) ⟨vs, []⟩ = pure ((psOf (st 44)).zip vs) := fun vs h => by
  rw [show (psOf (st 44)).length = 2 by kernel_rfl] at h
  obtain ⟨v1, v2, rfl⟩ := len2 h
  kernel_rfl
theorem g_json_number (w : World) : FnGood w 204 p_json_number := good_of (s := (st 44)) (name := "json_number") (qual := "json_number") (pm := (S "js.jsonread" 429)) (c := 203) (by kernel_rfl) (by kernel_rfl) (by kernel_rfl) b_json_number c_json_number
noncomputable def lb_json_hex_unit_0 : MB := (.cons (.ite (.or (.cmp .Eq (.call 190 (.cons (.loc 0) (.cons (.loc 2) .nil))) (.cst (.str []))) (.cmp .NotIn (.item (.loc 0) (.loc 2)) (.cst (.str [48, 49, 50, 51, 52, 53, 54, 55, 56, 57, 97, 98, 99, 100, 101, 102, 65, 66, 67, 68, 69, 70])))) (.cons .stuck .nil) .nil) .nil)
noncomputable def p_json_hex_unit : Fn := ⟨2, 3,
    (.cons (.for1 2 (.range (.loc 1) (.bin .Add (.loc 1) (.cst (.int (4))))) lb_json_hex_unit_0) (.cons (.ret (.bi 2 (.cons (.call 119 (.cons (.loc 0) (.cons (.loc 1) (.cons (.bin .Add (.loc 1) (.cst (.int (4)))) (.cons (.cst (.int (16))) .nil))))) .nil))) .nil))⟩
theorem c_json_hex_unit : compile (st 45) = p_json_hex_unit := by kernel_rfl
theorem b_json_hex_unit : ∀ vs : List Value, vs.length = (psOf (st 45)).length → bindArgs (fdOf (st 45) "json_hex_unit" "json_hex_unit" (S "js.jsonread" 429) (R 210) 3) ⟨vs, []⟩ = pure ((psOf (st 45)).zip vs) := fun vs h => by
  rw [show (psOf (st 45)).length = 2 by kernel_rfl] at h
  obtain ⟨v1, v2, rfl⟩ := len2 h
  kernel_rfl
theorem g_json_hex_unit (w : World) : FnGood w 211 p_json_hex_unit := good_of (s := (st 45)) (name := "json_hex_unit") (qual := "json_hex_unit") (pm := (S "js.jsonread" 429)) (c := 210) (by kernel_rfl) (by kernel_rfl) (by kernel_rfl) b_json_hex_unit c_json_hex_unit
noncomputable def lc_json_string_0 : MX := (.cmp .NotEq (.call 190 (.cons (.loc 0) (.cons (.loc 1) .nil))) (.cst (.str [34])))
noncomputable def lb_json_string_0 : MB := (.cons (.set 3 (.call 190 (.cons (.loc 0) (.cons (.loc 1) .nil)))) (.cons (.ite (.or (.cmp .Eq (.loc 3) (.cst (.str []))) (.cmp .Lt (.bi 1 (.cons (.loc 3) .nil)) (.cst (.int (32))))) (.cons .stuck .nil) .nil) (.cons (.ite (.cmp .NotEq (.loc 3) (.cst (.str [92]))) (.cons (.expr (.append (.loc 2) (.loc 3))) (.cons (.aug 1 (.cst (.int (1)))) .nil)) (.cons (.ite (.cmp .Eq (.call 190 (.cons (.loc 0) (.cons (.bin .Add (.loc 1) (.cst (.int (1)))) .nil))) (.cst (.str [117]))) (.cons (.expr (.append (.loc 2) (.call 211 (.cons (.loc 0) (.cons (.bin .Add (.loc 1) (.cst (.int (2)))) .nil))))) (.cons (.aug 1 (.cst (.int (6)))) .nil)) (.cons (.ite (.cmp .In (.call 190 (.cons (.loc 0) (.cons (.bin .Add (.loc 1) (.cst (.int (1)))) .nil))) (.cst (.g (.ref 168)))) (.cons (.expr (.append (.loc 2) (.item (.cst (.g (.ref 168))) (.item (.loc 0) (.bin .Add (.loc 1) (.cst (.int (1)))))))) (.cons (.aug 1 (.cst (.int (2)))) .nil)) (.cons .stuck .nil)) .nil)) .nil)) .nil)))
noncomputable def p_json_string : Fn := ⟨2, 4,
    (.cons (.ite (.cmp .NotEq (.call 190 (.cons (.loc 0) (.cons (.loc 1) .nil))) (.cst (.str [34]))) (.cons .stuck .nil) .nil) (.cons (.swap [2, 1] (.tup (.cons .lst (.cons (.bin .Add (.loc 1) (.cst (.int (1)))) .nil)))) (.cons (.loop lc_json_string_0 lb_json_string_0) (.cons (.ret (.tup (.cons (.join (.cst (.str [])) (.loc 2)) (.cons (.bin .Add (.loc 1) (.cst (.int (1)))) .nil)))) .nil))))⟩
theorem c_json_string : compile (st 46) = p_json_string := by kernel_rfl
theorem b_json_string : ∀ vs : List Value, vs.length = (psOf (st 46)).length → bindArgs (fdOf (st 46) "json_string" "json_string" (S "js.jsonread" 429) (R 217) 3) ⟨vs, []⟩ = pure ((psOf (st 46)).zip vs) := fun vs h => by
  rw [show (psOf (st 46)).length = 2 by kernel_rfl] at h
  obtain ⟨v1, v2, rfl⟩ := len2 h
  kernel_rfl
theorem g_json_string (w : World) : FnGood w 218 p_json_string := good_of (s := (st 46)) (name := "json_string") (qual := "json_string") (pm := (S "js.jsonread" 429)) (c := 217) (by kernel_rfl) (by kernel_rfl) (by kernel_rfl) b_json_string c_json_string
noncomputable def lb_json_plain_0 : MB := (.cons (.ite (.cmp .Eq (.slice (.loc 0) (.yes (.loc 1)) (.yes (.bin .Add (.loc 1) (.bi 0 (.cons (.loc 2) .nil))))) (.loc 2)) (.cons (.ret (.tup (.cons (.loc 3) (.cons (.bin .Add (.loc 1) (.bi 0 (.cons (.loc 2) .nil))) .nil)))) .nil) .nil) .nil)
noncomputable def p_json_plain : Fn := ⟨2, 7,
    (.cons (.forN [2, 3] (.val (.cst (.tup [(.tup [(.str [110, 117, 108, 108]), (.tup [(.str [110, 117, 108, 108]), .none])]), (.tup [(.str [116, 114, 117, 101]), (.tup [(.str [98, 111, 111, 108]), (.bool true)])]), (.tup [(.str [102, 97, 108, 115, 101]), (.tup [(.str [98, 111, 111, 108]), (.bool false)])])]))) lb_json_plain_0) (.cons (.ite (.cmp .Eq (.call 190 (.cons (.loc 0) (.cons (.loc 1) .nil))) (.cst (.str [34]))) (.cons (.tset [.loc 4, .loc 5] (.call 218 (.cons (.loc 0) (.cons (.loc 1) .nil)))) (.cons (.ret (.tup (.cons (.tup (.cons (.cst (.str [115, 116, 114, 105, 110, 103])) (.cons (.loc 4) .nil))) (.cons (.loc 5) .nil)))) .nil)) .nil) (.cons (.ite (.and (.cmp .NotEq (.call 190 (.cons (.loc 0) (.cons (.loc 1) .nil))) (.cst (.str [45]))) (.or (.cmp .Eq (.call 190 (.cons (.loc 0) (.cons (.loc 1) .nil))) (.cst (.str []))) (.cmp .NotIn (.item (.loc 0) (.loc 1)) (.cst (.str [48, 49, 50, 51, 52, 53, 54, 55, 56, 57]))))) (.cons .stuck .nil) .nil) (.cons (.tset [.loc 6, .loc 5] (.call 204 (.cons (.loc 0) (.cons (.loc 1) .nil)))) (.cons (.ret (.tup (.cons (.tup (.cons (.cst (.str [110, 117, 109, 98, 101, 114])) (.cons (.loc 6) .nil))) (.cons (.loc 5) .nil)))) .nil)))))⟩
theorem c_json_plain : compile (st 47) = p_json_plain := by kernel_rfl
theorem b_json_plain : ∀ vs : List Value, vs.length = (psOf (st 47)).length → bindArgs (fdOf (st 47) "json_plain" "json_plain" (S "js.jsonread" 429) (R 224) 3) ⟨vs, []⟩ = pure ((psOf (st 47)).zip vs) := fun vs h => by
  rw [show (psOf (st 47)).length = 2 by kernel_rfl] at h
  obtain ⟨v1, v2, rfl⟩ := len2 h
  kernel_rfl
theorem g_json_plain (w : World) : FnGood w 225 p_json_plain := good_of (s := (st 47)) (name := "json_plain") (qual := "json_plain") (pm := (S "js.jsonread" 429)) (c := 224) (by kernel_rfl) (by kernel_rfl) (by kernel_rfl) b_json_plain c_json_plain
noncomputable def p_init : Fn := ⟨2, 2,
    (.cons (.setattr 0 0 (.loc 1)) (.cons (.setattr 0 1 (.cst (.int (0)))) (.cons (.setattr 0 2 .lst) (.cons (.setattr 0 3 .lst) .nil))))⟩
theorem c_init : compile (mt 48 0) = p_init := by kernel_rfl
theorem b_init : ∀ vs : List Value, vs.length = (psOf (mt 48 0)).length → bindArgs (fdOf (mt 48 0) "__init__" "JsonReader.__init__" (S "js.jsonread" 429) (R 238) 3) ⟨vs, []⟩ = pure ((psOf (mt 48 0)).zip vs) := fun vs h => by
  rw [show (psOf (mt 48 0)).length = 2 by kernel_rfl] at h
  obtain ⟨v1, v2, rfl⟩ := len2 h
  kernel_rfl
theorem g_init (w : World) : FnGood w 239 p_init := good_of (s := (mt 48 0)) (name := "__init__") (qual := "JsonReader.__init__") (pm := (S "js.jsonread" 429)) (c := 238) (by kernel_rfl) (by kernel_rfl) (by kernel_rfl) b_init c_init
noncomputable def p_skip : Fn := ⟨1, 1,
    (.cons (.setattr 0 1 (.call 197 (.cons (.field 0 0) (.cons (.field 0 1) .nil)))) (.cons (.ret (.call 190 (.cons (.field 0 0) (.cons (.field 0 1) .nil)))) .nil))⟩
theorem c_skip : compile (mt 48 1) = p_skip := by kernel_rfl
theorem b_skip : ∀ vs : List Value, vs.length = (psOf (mt 48 1)).length → bindArgs (fdOf (mt 48 1) "skip" "JsonReader.skip" (S "js.jsonread" 429) (R 245) 3) ⟨vs, []⟩ = pure ((psOf (mt 48 1)).zip vs) := fun vs h => by
  rw [show (psOf (mt 48 1)).length = 1 by kernel_rfl] at h
  obtain ⟨v1, rfl⟩ := len1 h
  kernel_rfl
theorem g_skip (w : World) : FnGood w 246 p_skip := good_of (s := (mt 48 1)) (name := "skip") (qual := "JsonReader.skip") (pm := (S "js.jsonread" 429)) (c := 245) (by kernel_rfl) (by kernel_rfl) (by kernel_rfl) b_skip c_skip
noncomputable def p_next_tree : Fn := ⟨1, 3,
    (.cons (.set 1 (.meth (.loc 0) 246 .nil)) (.cons (.ite (.cmp .Eq (.loc 1) (.cst (.str [91]))) (.cons .stuck .nil) .nil) (.cons (.ite (.cmp .Eq (.loc 1) (.cst (.str [123]))) (.cons .stuck .nil) .nil) (.cons (.tset [.loc 2, .attr 0 1] (.call 225 (.cons (.field 0 0) (.cons (.field 0 1) .nil)))) (.cons (.ret (.loc 2)) .nil)))))⟩
theorem c_next_tree : compile (mt 48 4) = p_next_tree := by kernel_rfl
theorem b_next_tree : ∀ vs : List Value, vs.length = (psOf (mt 48 4)).length → bindArgs (fdOf (mt 48 4) "next_tree" "JsonReader.next_tree" (S "js.jsonread" 429) (R 266) 3) ⟨vs, []⟩ = pure ((psOf (mt 48 4)).zip vs) := fun vs h => by
  rw [show (psOf (mt 48 4)).length = 1 by kernel_rfl] at h
  obtain ⟨v1, rfl⟩ := len1 h
  kernel_rfl
theorem g_next_tree (w : World) : FnGood w 267 p_next_tree := good_of (s := (mt 48 4)) (name := "next_tree") (qual := "JsonReader.next_tree") (pm := (S "js.jsonread" 429)) (c := 266) (by kernel_rfl) (by kernel_rfl) (by kernel_rfl) b_next_tree c_next_tree
noncomputable def lc_settled_0 : MX := (.cmp .Gt (.bi 0 (.cons (.field 0 2) .nil)) (.cst (.int (0))))
noncomputable def lb_settled_0 : MB := (.cons (.tset [.loc 2, .loc 3] (.item (.field 0 2) (.neg (.cst (.int (1)))))) (.cons .stuck (.cons (.set 4 (.meth (.loc 0) 246 .nil)) (.cons (.ite (.cmp .Eq (.loc 4) (.cst (.str [44]))) (.cons .stuck (.cons (.ite (.cmp .Eq (.loc 2) (.cst (.str [111, 98, 106, 101, 99, 116]))) (.cons .stuck .nil) .nil) (.cons (.ret (.cst .none)) .nil))) .nil) (.cons .stuck (.cons .stuck (.cons .stuck .nil)))))))
noncomputable def p_settled : Fn := ⟨2, 5,
    (.cons (.loop lc_settled_0 lb_settled_0) (.cons (.ret (.loc 1)) .nil))⟩
theorem c_settled : compile (mt 48 5) = p_settled := by kernel_rfl
theorem b_settled : ∀ vs : List Value, vs.length = (psOf (mt 48 5)).length → bindArgs (fdOf (mt 48 5) "settled" "JsonReader.settled" (S "js.jsonread" 429) (R 273) 3) ⟨vs, []⟩ = pure ((psOf (mt 48 5)).zip vs) := fun vs h => by
  rw [show (psOf (mt 48 5)).length = 2 by kernel_rfl] at h
  obtain ⟨v1, v2, rfl⟩ := len2 h
  kernel_rfl
theorem g_settled (w : World) : FnGood w 274 p_settled := good_of (s := (mt 48 5)) (name := "settled") (qual := "JsonReader.settled") (pm := (S "js.jsonread" 429)) (c := 273) (by kernel_rfl) (by kernel_rfl) (by kernel_rfl) b_settled c_settled
noncomputable def lc_whole_0 : MX := (.cmp .Is (.loc 1) (.cst .none))
noncomputable def lb_whole_0 : MB := (.cons (.set 2 (.meth (.loc 0) 267 .nil)) (.cons (.ite (.cmp .IsNot (.loc 2) (.cst .none)) (.cons (.set 1 (.meth (.loc 0) 274 (.cons (.loc 2) .nil))) .nil) .nil) .nil))
noncomputable def p_whole : Fn := ⟨1, 3,
    (.cons (.set 1 (.cst .none)) (.cons (.loop lc_whole_0 lb_whole_0) (.cons (.ite (.cmp .NotEq (.meth (.loc 0) 246 .nil) (.cst (.str []))) (.cons .stuck .nil) .nil) (.cons (.ret (.loc 1)) .nil))))⟩
theorem c_whole : compile (mt 48 6) = p_whole := by kernel_rfl
theorem b_whole : ∀ vs : List Value, vs.length = (psOf (mt 48 6)).length → bindArgs (fdOf (mt 48 6) "whole" "JsonReader.whole" (S "js.jsonread" 429) (R 280) 3) ⟨vs, []⟩ = pure ((psOf (mt 48 6)).zip vs) := fun vs h => by
  rw [show (psOf (mt 48 6)).length = 1 by kernel_rfl] at h
  obtain ⟨v1, rfl⟩ := len1 h
  kernel_rfl
theorem g_whole (w : World) : FnGood w 281 p_whole := good_of (s := (mt 48 6)) (name := "whole") (qual := "JsonReader.whole") (pm := (S "js.jsonread" 429)) (c := 280) (by kernel_rfl) (by kernel_rfl) (by kernel_rfl) b_whole c_whole
noncomputable def p_read_json : Fn := ⟨1, 1,
    (.cons (.ret (.meth (.new (.cons (.loc 0) .nil)) 281 .nil)) .nil)⟩
theorem c_read_json : compile (st 49) = p_read_json := by kernel_rfl
theorem b_read_json : ∀ vs : List Value, vs.length = (psOf (st 49)).length → bindArgs (fdOf (st 49) "read_json" "read_json" (S "js.jsonread" 429) (R 294) 3) ⟨vs, []⟩ = pure ((psOf (st 49)).zip vs) := fun vs h => by
  rw [show (psOf (st 49)).length = 1 by kernel_rfl] at h
  obtain ⟨v1, rfl⟩ := len1 h
  kernel_rfl
theorem g_read_json (w : World) : FnGood w 295 p_read_json := good_of (s := (st 49)) (name := "read_json") (qual := "read_json") (pm := (S "js.jsonread" 429)) (c := 294) (by kernel_rfl) (by kernel_rfl) (by kernel_rfl) b_read_json c_read_json
noncomputable def p_scaled : Fn := ⟨2, 5,
    (.cons (.set 2 (.and (.cmp .Eq (.loc 0) (.cst (.int (4503599627370496)))) (.cmp .Gt (.loc 1) (.cst (.int (-1074)))))) (.cons (.set 3 (.ite (.loc 2) (.cst (.int (4))) (.cst (.int (2))))) (.cons (.set 4 (.ite (.loc 2) (.cst (.int (2))) (.cst (.int (1))))) (.cons (.ite (.cmp .GtE (.loc 1) (.cst (.int (0)))) (.cons (.ret (.tup (.cons (.bin .LShift (.bin .Mult (.loc 0) (.loc 3)) (.loc 1)) (.cons (.bin .LShift (.loc 4) (.loc 1)) (.cons (.bin .LShift (.cst (.int (1))) (.loc 1)) (.cons (.loc 3) .nil)))))) .nil) .nil) (.cons (.ret (.tup (.cons (.bin .Mult (.loc 0) (.loc 3)) (.cons (.loc 4) (.cons (.cst (.int (1))) (.cons (.bin .LShift (.loc 3) (.bin .Sub (.cst (.int (0))) (.loc 1))) .nil)))))) .nil)))))⟩
theorem c_scaled : compile (st 53) = p_scaled := by kernel_rfl
theorem b_scaled : ∀ vs : List Value, vs.length = (psOf (st 53)).length → bindArgs (fdOf (st 53) "scaled" "scaled" (S "js.numshow" 639) (R 301) 3) ⟨vs, []⟩ = pure ((psOf (st 53)).zip vs) := fun vs h => by
  rw [show (psOf (st 53)).length = 2 by kernel_rfl] at h
  obtain ⟨v1, v2, rfl⟩ := len2 h
  kernel_rfl
theorem g_scaled (w : World) : FnGood w 302 p_scaled := good_of (s := (st 53)) (name := "scaled") (qual := "scaled") (pm := (S "js.numshow" 639)) (c := 301) (by kernel_rfl) (by kernel_rfl) (by kernel_rfl) b_scaled c_scaled
noncomputable def p_decimal_place : Fn := ⟨2, 3,
    (.cons (.set 2 (.bin .Sub (.bi 0 (.cons (.bi 7 (.cons (.loc 0) .nil)) .nil)) (.bi 0 (.cons (.bi 7 (.cons (.loc 1) .nil)) .nil)))) (.cons (.ite (.and (.cmp .GtE (.loc 2) (.cst (.int (0)))) (.cmp .GtE (.loc 0) (.bin .Mult (.loc 1) (.bin .Pow (.cst (.int (10))) (.loc 2))))) (.cons (.ret (.bin .Add (.loc 2) (.cst (.int (1))))) .nil) .nil) (.cons (.ret (.ite (.and (.cmp .Lt (.loc 2) (.cst (.int (0)))) (.cmp .GtE (.bin .Mult (.loc 0) (.bin .Pow (.cst (.int (10))) (.bin .Sub (.cst (.int (0))) (.loc 2)))) (.loc 1))) (.bin .Add (.loc 2) (.cst (.int (1)))) (.loc 2))) .nil)))⟩
theorem c_decimal_place : compile (st 54) = p_decimal_place := by kernel_rfl
theorem b_decimal_place : ∀ vs : List Value, vs.length = (psOf (st 54)).length → bindArgs (fdOf (st 54) "decimal_place" "decimal_place" (S "js.numshow" 639) (R 308) 3) ⟨vs, []⟩ = pure ((psOf (st 54)).zip vs) := fun vs h => by
  rw [show (psOf (st 54)).length = 2 by kernel_rfl] at h
  obtain ⟨v1, v2, rfl⟩ := len2 h
  kernel_rfl
theorem g_decimal_place (w : World) : FnGood w 309 p_decimal_place := good_of (s := (st 54)) (name := "decimal_place") (qual := "decimal_place") (pm := (S "js.numshow" 639)) (c := 308) (by kernel_rfl) (by kernel_rfl) (by kernel_rfl) b_decimal_place c_decimal_place
noncomputable def p_first_place : Fn := ⟨4, 7,
    (.cons (.set 4 (.call 309 (.cons (.loc 0) (.cons (.loc 2) .nil)))) (.cons (.set 5 (.bin .Add (.loc 0) (.loc 1))) (.cons (.ite (.cmp .GtE (.loc 4) (.cst (.int (0)))) (.cons (.set 6 (.bin .Mult (.loc 2) (.bin .Pow (.cst (.int (10))) (.loc 4)))) .nil) (.cons (.swap [5, 6] (.tup (.cons (.bin .Mult (.loc 5) (.bin .Pow (.cst (.int (10))) (.bin .Sub (.cst (.int (0))) (.loc 4)))) (.cons (.loc 2) .nil)))) .nil)) (.cons (.ret (.ite (.or (.cmp .Gt (.loc 5) (.loc 6)) (.and (.loc 3) (.cmp .Eq (.loc 5) (.loc 6)))) (.bin .Add (.loc 4) (.cst (.int (1)))) (.loc 4))) .nil))))⟩
theorem c_first_place : compile (st 55) = p_first_place := by kernel_rfl
theorem b_first_place : ∀ vs : List Value, vs.length = (psOf (st 55)).length → bindArgs (fdOf (st 55) "first_place" "first_place" (S "js.numshow" 639) (R 315) 3) ⟨vs, []⟩ = pure ((psOf (st 55)).zip vs) := fun vs h => by
  rw [show (psOf (st 55)).length = 4 by kernel_rfl] at h
  obtain ⟨v1, v2, v3, v4, rfl⟩ := len4 h
  kernel_rfl
theorem g_first_place (w : World) : FnGood w 316 p_first_place := good_of (s := (st 55)) (name := "first_place") (qual := "first_place") (pm := (S "js.numshow" 639)) (c := 315) (by kernel_rfl) (by kernel_rfl) (by kernel_rfl) b_first_place c_first_place
noncomputable def lc_shortest_0 : MX := (.cst (.bool true))
noncomputable def lb_shortest_0 : MB := (.cons (.swap [5, 6, 7] (.tup (.cons (.bin .Mult (.loc 5) (.cst (.int (10)))) (.cons (.bin .Mult (.loc 6) (.cst (.int (10)))) (.cons (.bin .Mult (.loc 7) (.cst (.int (10)))) .nil))))) (.cons (.set 12 (.bin .FloorDiv (.loc 5) (.loc 8))) (.cons (.set 5 (.bin .Mod (.loc 5) (.loc 8))) (.cons (.set 13 (.or (.cmp .Lt (.loc 5) (.loc 7)) (.and (.loc 4) (.cmp .Eq (.loc 5) (.loc 7))))) (.cons (.set 14 (.or (.cmp .Gt (.bin .Add (.loc 5) (.loc 6)) (.loc 8)) (.and (.loc 4) (.cmp .Eq (.bin .Add (.loc 5) (.loc 6)) (.loc 8))))) (.cons (.ite (.or (.loc 13) (.loc 14)) (.cons (.expr (.append (.loc 11) (.bi 7 (.cons (.call 330 (.cons (.loc 12) (.cons (.loc 5) (.cons (.loc 8) (.cons (.loc 13) (.cons (.loc 14) .nil)))))) .nil)))) (.cons (.ret (.tup (.cons (.join (.cst (.str [])) (.loc 11)) (.cons (.loc 9) .nil)))) .nil)) .nil) (.cons (.expr (.append (.loc 11) (.bi 7 (.cons (.loc 12) .nil)))) .nil)))))))
noncomputable def p_shortest : Fn := ⟨1, 15,
    (.cons (.tset [.loc 1, .loc 2, .loc 3] (.call 77 (.cons (.loc 0) .nil))) (.cons (.set 4 (.cmp .Eq (.bin .Mod (.loc 2) (.cst (.int (2)))) (.cst (.int (0))))) (.cons (.tset [.loc 5, .loc 6, .loc 7, .loc 8] (.call 302 (.cons (.loc 2) (.cons (.loc 3) .nil)))) (.cons (.set 9 (.call 316 (.cons (.loc 5) (.cons (.loc 6) (.cons (.loc 8) (.cons (.loc 4) .nil)))))) (.cons (.ite (.cmp .GtE (.loc 9) (.cst (.int (0)))) (.cons (.set 8 (.bin .Mult (.loc 8) (.bin .Pow (.cst (.int (10))) (.loc 9)))) .nil) (.cons (.set 10 (.bin .Pow (.cst (.int (10))) (.bin .Sub (.cst (.int (0))) (.loc 9)))) (.cons (.swap [5, 6, 7] (.tup (.cons (.bin .Mult (.loc 5) (.loc 10)) (.cons (.bin .Mult (.loc 6) (.loc 10)) (.cons (.bin .Mult (.loc 7) (.loc 10)) .nil))))) .nil))) (.cons (.set 11 .lst) (.cons (.loop lc_shortest_0 lb_shortest_0) .nil)))))))⟩
theorem c_shortest : compile (st 56) = p_shortest := by kernel_rfl
theorem b_shortest : ∀ vs : List Value, vs.length = (psOf (st 56)).length → bindArgs (fdOf (st 56) "shortest" "shortest" (S "js.numshow" 639) (R 322) 3) ⟨vs, []⟩ = pure ((psOf (st 56)).zip vs) := fun vs h => by
  rw [show (psOf (st 56)).length = 1 by kernel_rfl] at h
  obtain ⟨v1, rfl⟩ := len1 h
  kernel_rfl
theorem g_shortest (w : World) : FnGood w 323 p_shortest := good_of (s := (st 56)) (name := "shortest") (qual := "shortest") (pm := (S "js.numshow" 639)) (c := 322) (by kernel_rfl) (by kernel_rfl) (by kernel_rfl) b_shortest c_shortest
noncomputable def p_last_figure : Fn := ⟨5, 5,
    (.cons (.ite (.and (.loc 3) (.loc 4)) (.cons (.ite (.cmp .Eq (.bin .Mult (.cst (.int (2))) (.loc 1)) (.loc 2)) (.cons (.ret (.bin .Add (.loc 0) (.bin .Mod (.loc 0) (.cst (.int (2)))))) .nil) .nil) (.cons (.ret (.bin .Add (.loc 0) (.bi 6 (.cons (.cmp .Gt (.bin .Mult (.cst (.int (2))) (.loc 1)) (.loc 2)) .nil)))) .nil)) .nil) (.cons (.ret (.bin .Add (.loc 0) (.bi 6 (.cons (.loc 4) .nil)))) .nil))⟩
theorem c_last_figure : compile (st 57) = p_last_figure := by kernel_rfl
theorem b_last_figure : ∀ vs : List Value, vs.length = (psOf (st 57)).length → bindArgs (fdOf (st 57) "last_figure" "last_figure" (S "js.numshow" 639) (R 329) 3) ⟨vs, []⟩ = pure ((psOf (st 57)).zip vs) := fun vs h => by
  rw [show (psOf (st 57)).length = 5 by kernel_rfl] at h
  obtain ⟨v1, v2, v3, v4, v5, rfl⟩ := len5 h
  kernel_rfl
theorem g_last_figure (w : World) : FnGood w 330 p_last_figure := good_of (s := (st 57)) (name := "last_figure") (qual := "last_figure") (pm := (S "js.numshow" 639)) (c := 329) (by kernel_rfl) (by kernel_rfl) (by kernel_rfl) b_last_figure c_last_figure
noncomputable def p_signed_exponent : Fn := ⟨1, 1,
    (.cons (.ret (.bin .Add (.bin .Add (.cst (.str [101])) (.ite (.cmp .Lt (.loc 0) (.cst (.int (0)))) (.cst (.str [45])) (.cst (.str [43])))) (.bi 7 (.cons (.bi 3 (.cons (.loc 0) .nil)) .nil)))) .nil)⟩
theorem c_signed_exponent : compile (st 58) = p_signed_exponent := by kernel_rfl
theorem b_signed_exponent : ∀ vs : List Value, vs.length = (psOf (st 58)).length → bindArgs (fdOf (st 58) "signed_exponent" "signed_exponent" (S "js.numshow" 639) (R 336) 3) ⟨vs, []⟩ = pure ((psOf (st 58)).zip vs) := fun vs h => by
  rw [show (psOf (st 58)).length = 1 by kernel_rfl] at h
  obtain ⟨v1, rfl⟩ := len1 h
  kernel_rfl
theorem g_signed_exponent (w : World) : FnGood w 337 p_signed_exponent := good_of (s := (st 58)) (name := "signed_exponent") (qual := "signed_exponent") (pm := (S "js.numshow" 639)) (c := 336) (by kernel_rfl) (by kernel_rfl) (by kernel_rfl) b_signed_exponent c_signed_exponent
noncomputable def p_with_exponent : Fn := ⟨2, 3,
    (.cons (.set 2 (.ite (.cmp .Gt (.bi 0 (.cons (.loc 0) .nil)) (.cst (.int (1)))) (.bin .Add (.cst (.str [46])) (.slice (.loc 0) (.yes (.cst (.int (1)))) .no)) (.cst (.str [])))) (.cons (.ret (.bin .Add (.bin .Add (.slice (.loc 0) .no (.yes (.cst (.int (1))))) (.loc 2)) (.call 337 (.cons (.loc 1) .nil)))) .nil))⟩
theorem c_with_exponent : compile (st 59) = p_with_exponent := by kernel_rfl
theorem b_with_exponent : ∀ vs : List Value, vs.length = (psOf (st 59)).length → bindArgs (fdOf (st 59) "with_exponent" "with_exponent" (S "js.numshow" 639) (R 343) 3) ⟨vs, []⟩ = pure ((psOf (st 59)).zip vs) := fun vs h => by
  rw [show (psOf (st 59)).length = 2 by kernel_rfl] at h
  obtain ⟨v1, v2, rfl⟩ := len2 h
  kernel_rfl
theorem g_with_exponent (w : World) : FnGood w 344 p_with_exponent := good_of (s := (st 59)) (name := "with_exponent") (qual := "with_exponent") (pm := (S "js.numshow" 639)) (c := 343) (by kernel_rfl) (by kernel_rfl) (by kernel_rfl) b_with_exponent c_with_exponent
noncomputable def p_laid_out : Fn := ⟨2, 3,
    (.cons (.set 2 (.bi 0 (.cons (.loc 0) .nil))) (.cons (.ite (.chain .LtE .LtE (.loc 2) (.loc 1) (.cst (.int (21)))) (.cons (.ret (.bin .Add (.loc 0) (.bin .Mult (.cst (.str [48])) (.bin .Sub (.loc 1) (.loc 2))))) .nil) .nil) (.cons (.ite (.chain .Lt .LtE (.cst (.int (0))) (.loc 1) (.cst (.int (21)))) (.cons (.ret (.bin .Add (.bin .Add (.slice (.loc 0) .no (.yes (.loc 1))) (.cst (.str [46]))) (.slice (.loc 0) (.yes (.loc 1)) .no))) .nil) .nil) (.cons (.ite (.chain .Lt .LtE (.neg (.cst (.int (6)))) (.loc 1) (.cst (.int (0)))) (.cons (.ret (.bin .Add (.bin .Add (.cst (.str [48, 46])) (.bin .Mult (.cst (.str [48])) (.bin .Sub (.cst (.int (0))) (.loc 1)))) (.loc 0))) .nil) .nil) (.cons (.ret (.call 344 (.cons (.loc 0) (.cons (.bin .Sub (.loc 1) (.cst (.int (1)))) .nil)))) .nil)))))⟩
theorem c_laid_out : compile (st 60) = p_laid_out := by kernel_rfl
theorem b_laid_out : ∀ vs : List Value, vs.length = (psOf (st 60)).length → bindArgs (fdOf (st 60) "laid_out" "laid_out" (S "js.numshow" 639) (R 350) 3) ⟨vs, []⟩ = pure ((psOf (st 60)).zip vs) := fun vs h => by
  rw [show (psOf (st 60)).length = 2 by kernel_rfl] at h
  obtain ⟨v1, v2, rfl⟩ := len2 h
  kernel_rfl
theorem g_laid_out (w : World) : FnGood w 351 p_laid_out := good_of (s := (st 60)) (name := "laid_out") (qual := "laid_out") (pm := (S "js.numshow" 639)) (c := 350) (by kernel_rfl) (by kernel_rfl) (by kernel_rfl) b_laid_out c_laid_out
noncomputable def p_without_figures : Fn := ⟨1, 1,
    (.cons (.ite (.call 42 (.cons (.loc 0) .nil)) (.cons (.ret (.cst (.str [78, 97, 78]))) .nil) .nil) (.cons (.ite (.call 49 (.cons (.loc 0) .nil)) (.cons (.ret (.ite (.call 35 (.cons (.loc 0) .nil)) (.cst (.str [45, 73, 110, 102, 105, 110, 105, 116, 121])) (.cst (.str [73, 110, 102, 105, 110, 105, 116, 121])))) .nil) .nil) (.cons (.ret (.cst .none)) .nil)))⟩
theorem c_without_figures : compile (st 61) = p_without_figures := by kernel_rfl
theorem b_without_figures : ∀ vs : List Value, vs.length = (psOf (st 61)).length → bindArgs (fdOf (st 61) "without_figures" "without_figures" (S "js.numshow" 639) (R 357) 3) ⟨vs, []⟩ = pure ((psOf (st 61)).zip vs) := fun vs h => by
  rw [show (psOf (st 61)).length = 1 by kernel_rfl] at h
  obtain ⟨v1, rfl⟩ := len1 h
  kernel_rfl
theorem g_without_figures (w : World) : FnGood w 358 p_without_figures := good_of (s := (st 61)) (name := "without_figures") (qual := "without_figures") (pm := (S "js.numshow" 639)) (c := 357) (by kernel_rfl) (by kernel_rfl) (by kernel_rfl) b_without_figures c_without_figures
noncomputable def p_show : Fn := ⟨1, 4,
    (.cons (.set 1 (.call 358 (.cons (.loc 0) .nil))) (.cons (.ite (.cmp .IsNot (.loc 1) (.cst .none)) (.cons (.ret (.loc 1)) .nil) .nil) (.cons (.ite (.call 63 (.cons (.loc 0) .nil)) (.cons (.ret (.cst (.str [48]))) .nil) .nil) (.cons (.tset [.loc 2, .loc 3] (.call 323 (.cons (.loc 0) .nil))) (.cons (.ret (.bin .Add (.ite (.call 35 (.cons (.loc 0) .nil)) (.cst (.str [45])) (.cst (.str []))) (.call 351 (.cons (.loc 2) (.cons (.loc 3) .nil))))) .nil)))))⟩
theorem c_show : compile (st 62) = p_show := by kernel_rfl
theorem b_show : ∀ vs : List Value, vs.length = (psOf (st 62)).length → bindArgs (fdOf (st 62) "show" "show" (S "js.numshow" 639) (R 364) 3) ⟨vs, []⟩ = pure ((psOf (st 62)).zip vs) := fun vs h => by
  rw [show (psOf (st 62)).length = 1 by kernel_rfl] at h
  obtain ⟨v1, rfl⟩ := len1 h
  kernel_rfl
theorem g_show (w : World) : FnGood w 365 p_show := good_of (s := (st 62)) (name := "show") (qual := "show") (pm := (S "js.numshow" 639)) (c := 364) (by kernel_rfl) (by kernel_rfl) (by kernel_rfl) b_show c_show
noncomputable def p_json_quoted_sign : Fn := ⟨1, 2,
    (.cons (.ite (.cmp .In (.loc 0) (.cst (.g (.ref 366)))) (.cons (.ret (.item (.cst (.g (.ref 366))) (.loc 0))) .nil) .nil) (.cons (.set 1 (.bi 1 (.cons (.loc 0) .nil))) (.cons (.ite (.cmp .GtE (.loc 1) (.cst (.int (32)))) (.cons (.ret (.loc 0)) .nil) .nil) (.cons (.ret (.bin .Add (.bin .Add (.cst (.str [92, 117, 48, 48])) (.item (.cst (.str [48, 49, 50, 51, 52, 53, 54, 55, 56, 57, 97, 98, 99, 100, 101, 102])) (.bin .RShift (.loc 1) (.cst (.int (4)))))) (.item (.cst (.str [48, 49, 50, 51, 52, 53, 54, 55, 56, 57, 97, 98, 99, 100, 101, 102])) (.bin .BitAnd (.loc 1) (.cst (.int (15))))))) .nil))))⟩
theorem c_json_quoted_sign : compile (st 66) = p_json_quoted_sign := by kernel_rfl
theorem b_json_quoted_sign : ∀ vs : List Value, vs.length = (psOf (st 66)).length → bindArgs (fdOf (st 66) "json_quoted_sign" "json_quoted_sign" (S "js.jsonshow" 755) (R 372) 3) ⟨vs, []⟩ = pure ((psOf (st 66)).zip vs) := fun vs h => by
  rw [show (psOf (st 66)).length = 1 by kernel_rfl] at h
  obtain ⟨v1, rfl⟩ := len1 h
  kernel_rfl
theorem g_json_quoted_sign (w : World) : FnGood w 373 p_json_quoted_sign := good_of (s := (st 66)) (name := "json_quoted_sign") (qual := "json_quoted_sign") (pm := (S "js.jsonshow" 755)) (c := 372) (by kernel_rfl) (by kernel_rfl) (by kernel_rfl) b_json_quoted_sign c_json_quoted_sign
noncomputable def p_json_quoted : Fn := ⟨1, 1,
    (.cons (.ret (.bin .Add (.bin .Add (.cst (.str [34])) (.join (.cst (.str [])) (.comp (.loc 0) [] (.call 373 (.cons (.loc 0) .nil))))) (.cst (.str [34])))) .nil)⟩
theorem c_json_quoted : compile (st 67) = p_json_quoted := by kernel_rfl
theorem b_json_quoted : ∀ vs : List Value, vs.length = (psOf (st 67)).length → bindArgs (fdOf (st 67) "json_quoted" "json_quoted" (S "js.jsonshow" 755) (R 377) 3) ⟨vs, []⟩ = pure ((psOf (st 67)).zip vs) := fun vs h => by
  rw [show (psOf (st 67)).length = 1 by kernel_rfl] at h
  obtain ⟨v1, rfl⟩ := len1 h
  kernel_rfl
theorem g_json_quoted (w : World) : FnGood w 378 p_json_quoted := good_of (s := (st 67)) (name := "json_quoted") (qual := "json_quoted") (pm := (S "js.jsonshow" 755)) (c := 377) (by kernel_rfl) (by kernel_rfl) (by kernel_rfl) b_json_quoted c_json_quoted
noncomputable def p_json_number_text : Fn := ⟨1, 1,
    (.cons (.ret (.ite (.call 56 (.cons (.loc 0) .nil)) (.call 365 (.cons (.loc 0) .nil)) (.cst (.str [110, 117, 108, 108])))) .nil)⟩
theorem c_json_number_text : compile (st 68) = p_json_number_text := by kernel_rfl
theorem b_json_number_text : ∀ vs : List Value, vs.length = (psOf (st 68)).length → bindArgs (fdOf (st 68) "json_number_text" "json_number_text" (S "js.jsonshow" 755) (R 384) 3) ⟨vs, []⟩ = pure ((psOf (st 68)).zip vs) := fun vs h => by
  rw [show (psOf (st 68)).length = 1 by kernel_rfl] at h
  obtain ⟨v1, rfl⟩ := len1 h
  kernel_rfl
theorem g_json_number_text (w : World) : FnGood w 385 p_json_number_text := good_of (s := (st 68)) (name := "json_number_text") (qual := "json_number_text") (pm := (S "js.jsonshow" 755)) (c := 384) (by kernel_rfl) (by kernel_rfl) (by kernel_rfl) b_json_number_text c_json_number_text
noncomputable def p_json_plain_text : Fn := ⟨1, 3,
    (.cons (.tset [.loc 1, .loc 2] (.loc 0)) (.cons (.ite (.cmp .Eq (.loc 1) (.cst (.str [98, 111, 111, 108]))) (.cons (.ret (.ite (.loc 2) (.cst (.str [116, 114, 117, 101])) (.cst (.str [102, 97, 108, 115, 101])))) .nil) .nil) (.cons (.ite (.cmp .Eq (.loc 1) (.cst (.str [110, 117, 109, 98, 101, 114]))) (.cons (.ret (.call 385 (.cons (.loc 2) .nil))) .nil) .nil) (.cons (.ret (.ite (.cmp .Eq (.loc 1) (.cst (.str [115, 116, 114, 105, 110, 103]))) (.call 378 (.cons (.loc 2) .nil)) (.cst (.str [110, 117, 108, 108])))) .nil))))⟩
theorem c_json_plain_text : compile (st 69) = p_json_plain_text := by kernel_rfl
theorem b_json_plain_text : ∀ vs : List Value, vs.length = (psOf (st 69)).length → bindArgs (fdOf (st 69) "json_plain_text" "json_plain_text" (S "js.jsonshow" 755) (R 391) 3) ⟨vs, []⟩ = pure ((psOf (st 69)).zip vs) := fun vs h => by
  rw [show (psOf (st 69)).length = 1 by kernel_rfl] at h
  obtain ⟨v1, rfl⟩ := len1 h
  kernel_rfl
theorem g_json_plain_text (w : World) : FnGood w 392 p_json_plain_text := good_of (s := (st 69)) (name := "json_plain_text") (qual := "json_plain_text") (pm := (S "js.jsonshow" 755)) (c := 391) (by kernel_rfl) (by kernel_rfl) (by kernel_rfl) b_json_plain_text c_json_plain_text
noncomputable def p_json_rows : Fn := ⟨5, 6,
    (.cons (.ite (.cmp .Eq (.bi 0 (.cons (.loc 2) .nil)) (.cst (.int (0)))) (.cons (.ret (.bin .Add (.loc 0) (.loc 1))) .nil) .nil) (.cons (.ite (.cmp .Eq (.loc 3) (.cst (.str []))) (.cons (.ret (.bin .Add (.bin .Add (.loc 0) (.join (.cst (.str [44])) (.loc 2))) (.loc 1))) .nil) .nil) (.cons (.set 5 (.bin .Add (.bin .Add (.cst (.str [10])) (.loc 4)) (.loc 3))) (.cons (.ret (.bin .Add (.bin .Add (.bin .Add (.bin .Add (.bin .Add (.loc 0) (.loc 5)) (.join (.bin .Add (.cst (.str [44])) (.loc 5)) (.loc 2))) (.cst (.str [10]))) (.loc 4)) (.loc 1))) .nil))))⟩
theorem c_json_rows : compile (st 70) = p_json_rows := by kernel_rfl
theorem b_json_rows : ∀ vs : List Value, vs.length = (psOf (st 70)).length → bindArgs (fdOf (st 70) "json_rows" "json_rows" (S "js.jsonshow" 755) (R 398) 3) ⟨vs, []⟩ = pure ((psOf (st 70)).zip vs) := fun vs h => by
  rw [show (psOf (st 70)).length = 5 by kernel_rfl] at h
  obtain ⟨v1, v2, v3, v4, v5, rfl⟩ := len5 h
  kernel_rfl
theorem g_json_rows (w : World) : FnGood w 399 p_json_rows := good_of (s := (st 70)) (name := "json_rows") (qual := "json_rows") (pm := (S "js.jsonshow" 755)) (c := 398) (by kernel_rfl) (by kernel_rfl) (by kernel_rfl) b_json_rows c_json_rows
noncomputable def lb_json_laid_0 : MB := (.cons (.ite (.cmp .NotEq (.item (.loc 5) (.cst (.int (0)))) (.cst (.str [115, 107, 105, 112]))) (.cons (.expr (.append (.loc 7) (.bin .Add (.bin .Add (.call 378 (.cons (.loc 8) .nil)) (.loc 6)) (.call 404 (.cons (.loc 5) (.cons (.loc 1) (.cons (.bin .Add (.loc 2) (.loc 1)) .nil))))))) .nil) .nil) .nil)
noncomputable def p_json_laid : Fn := ⟨3, 9,
    (.cons (.tset [.loc 3, .loc 4] (.loc 0)) (.cons (.ite (.cmp .Eq (.loc 3) (.cst (.str [97, 114, 114, 97, 121]))) (.cons (.ret (.call 399 (.cons (.cst (.str [91])) (.cons (.cst (.str [93])) (.cons (.comp (.loc 4) [1, 2] (.call 404 (.cons (.loc 0) (.cons (.loc 1) (.cons (.bin .Add (.loc 2) (.loc 1)) .nil))))) (.cons (.loc 1) (.cons (.loc 2) .nil))))))) .nil) .nil) (.cons (.ite (.cmp .NotEq (.loc 3) (.cst (.str [111, 98, 106, 101, 99, 116]))) (.cons (.ret (.call 392 (.cons (.loc 0) .nil))) .nil) .nil) (.cons (.set 6 (.ite (.cmp .Eq (.loc 1) (.cst (.str []))) (.cst (.str [58])) (.cst (.str [58, 32])))) (.cons (.set 7 .lst) (.cons (.forN [8, 5] (.val (.loc 4)) lb_json_laid_0) (.cons (.ret (.call 399 (.cons (.cst (.str [123])) (.cons (.cst (.str [125])) (.cons (.loc 7) (.cons (.loc 1) (.cons (.loc 2) .nil))))))) .nil)))))))⟩
theorem c_json_laid : compile (st 71) = p_json_laid := by kernel_rfl
theorem b_json_laid : ∀ vs : List Value, vs.length = (psOf (st 71)).length → bindArgs (fdOf (st 71) "json_laid" "json_laid" (S "js.jsonshow" 755) (R 403) 3) ⟨vs, []⟩ = pure ((psOf (st 71)).zip vs) := fun vs h => by
  rw [show (psOf (st 71)).length = 3 by kernel_rfl] at h
  obtain ⟨v1, v2, v3, rfl⟩ := len3 h
  kernel_rfl
theorem g_json_laid (w : World) : FnGood w 404 p_json_laid := good_of (s := (st 71)) (name := "json_laid") (qual := "json_laid") (pm := (S "js.jsonshow" 755)) (c := 403) (by kernel_rfl) (by kernel_rfl) (by kernel_rfl) b_json_laid c_json_laid
noncomputable def p_show_json : Fn := ⟨2, 2,
    (.cons (.ite (.cmp .Eq (.item (.loc 0) (.cst (.int (0)))) (.cst (.str [115, 107, 105, 112]))) (.cons (.ret (.cst .none)) .nil) .nil) (.cons (.ret (.call 404 (.cons (.loc 0) (.cons (.loc 1) (.cons (.cst (.str [])) .nil))))) .nil))⟩
theorem c_show_json : compile (st 72) = p_show_json := by kernel_rfl
theorem b_show_json : ∀ vs : List Value, vs.length = (psOf (st 72)).length → bindArgs (fdOf (st 72) "show_json" "show_json" (S "js.jsonshow" 755) (R 410) 3) ⟨vs, []⟩ = pure ((psOf (st 72)).zip vs) := fun vs h => by
  rw [show (psOf (st 72)).length = 2 by kernel_rfl] at h
  obtain ⟨v1, v2, rfl⟩ := len2 h
  kernel_rfl
theorem g_show_json (w : World) : FnGood w 411 p_show_json := good_of (s := (st 72)) (name := "show_json") (qual := "show_json") (pm := (S "js.jsonshow" 755)) (c := 410) (by kernel_rfl) (by kernel_rfl) (by kernel_rfl) b_show_json c_show_json
noncomputable def p_law_signs : Fn := ⟨0, 0,
    (.cons (.ret (.ilst (.cons (.cst (.int (97))) (.cons (.cst (.int (10))) (.cons (.cst (.int (34))) (.cons (.cst (.int (92))) (.cons (.cst (.int (47))) (.cons (.cst (.int (27))) (.cons (.cst (.int (8))) (.cons (.cst (.int (12))) (.cons (.cst (.int (13))) (.cons (.cst (.int (9))) (.cons (.cst (.int (32))) (.cons (.cst (.int (955))) (.cons (.cst (.int (31))) .nil))))))))))))))) .nil)⟩
theorem c_law_signs : compile (st 74) = p_law_signs := by kernel_rfl
theorem b_law_signs : ∀ vs : List Value, vs.length = (psOf (st 74)).length → bindArgs (fdOf (st 74) "_law_signs" "_law_signs" (S "law_pc0078_01" 837) (R 417) 3) ⟨vs, []⟩ = pure ((psOf (st 74)).zip vs) := fun vs h => by
  rw [show (psOf (st 74)).length = 0 by kernel_rfl] at h
  obtain rfl := len0 h
  kernel_rfl
theorem g_law_signs (w : World) : FnGood w 418 p_law_signs := good_of (s := (st 74)) (name := "_law_signs") (qual := "_law_signs") (pm := (S "law_pc0078_01" 837)) (c := 417) (by kernel_rfl) (by kernel_rfl) (by kernel_rfl) b_law_signs c_law_signs
noncomputable def p_law_short : Fn := ⟨0, 0,
    (.cons (.ret .tab) .nil)⟩
theorem c_law_short : compile (st 75) = p_law_short := by kernel_rfl
theorem b_law_short : ∀ vs : List Value, vs.length = (psOf (st 75)).length → bindArgs (fdOf (st 75) "_law_short" "_law_short" (S "law_pc0078_01" 837) (R 424) 3) ⟨vs, []⟩ = pure ((psOf (st 75)).zip vs) := fun vs h => by
  rw [show (psOf (st 75)).length = 0 by kernel_rfl] at h
  obtain rfl := len0 h
  kernel_rfl
theorem g_law_short (w : World) : FnGood w 425 p_law_short := good_of (s := (st 75)) (name := "_law_short") (qual := "_law_short") (pm := (S "law_pc0078_01" 837)) (c := 424) (by kernel_rfl) (by kernel_rfl) (by kernel_rfl) b_law_short c_law_short
noncomputable def p_law_next : Fn := ⟨2, 2,
    (.cons (.setitem (.loc 0) (.cst (.int (0))) (.bin .Add (.item (.loc 0) (.cst (.int (0)))) (.cst (.int (1))))) (.cons (.ret (.bin .Mod (.ite (.cmp .LtE (.item (.loc 0) (.cst (.int (0)))) (.bi 0 (.cons (.item (.loc 0) (.cst (.int (1)))) .nil))) (.item (.item (.loc 0) (.cst (.int (1)))) (.bin .Sub (.item (.loc 0) (.cst (.int (0)))) (.cst (.int (1))))) (.bin .Add (.bin .Add (.bin .Mult (.cst (.int (7))) (.item (.loc 0) (.cst (.int (0))))) (.bin .FloorDiv (.item (.loc 0) (.cst (.int (0)))) (.cst (.int (2))))) (.cst (.int (4))))) (.loc 1))) .nil))⟩
theorem c_law_next : compile (st 76) = p_law_next := by kernel_rfl
theorem b_law_next : ∀ vs : List Value, vs.length = (psOf (st 76)).length → bindArgs (fdOf (st 76) "_law_next" "_law_next" (S "law_pc0078_01" 837) (R 431) 3) ⟨vs, []⟩ = pure ((psOf (st 76)).zip vs) := fun vs h => by
  rw [show (psOf (st 76)).length = 2 by kernel_rfl] at h
  obtain ⟨v1, v2, rfl⟩ := len2 h
  kernel_rfl
theorem g_law_next (w : World) : FnGood w 432 p_law_next := good_of (s := (st 76)) (name := "_law_next") (qual := "_law_next") (pm := (S "law_pc0078_01" 837)) (c := 431) (by kernel_rfl) (by kernel_rfl) (by kernel_rfl) b_law_next c_law_next
noncomputable def lc_law_double_0 : MX := (.cmp .GtE (.loc 1) (.bin .Mult (.loc 2) (.bin .Pow (.cst (.int (2))) (.bin .Add (.loc 4) (.cst (.int (1)))))))
noncomputable def lb_law_double_0 : MB := (.cons (.set 4 (.bin .Add (.loc 4) (.cst (.int (1))))) .nil)
noncomputable def lc_law_double_1 : MX := (.and (.cmp .LtE (.loc 4) (.cst (.int (0)))) (.cmp .Lt (.bin .Mult (.loc 1) (.bin .Pow (.cst (.int (2))) (.bin .Sub (.cst (.int (0))) (.loc 4)))) (.loc 2)))
noncomputable def lb_law_double_1 : MB := (.cons (.set 4 (.bin .Sub (.loc 4) (.cst (.int (1))))) .nil)
noncomputable def p_law_double : Fn := ⟨3, 10,
    (.cons (.set 3 (.ite (.loc 0) (.bin .Pow (.cst (.int (2))) (.cst (.int (63)))) (.cst (.int (0))))) (.cons (.ite (.cmp .Eq (.loc 1) (.cst (.int (0)))) (.cons (.ret (.loc 3)) .nil) .nil) (.cons (.set 4 (.cst (.int (0)))) (.cons (.loop lc_law_double_0 lb_law_double_0) (.cons (.loop lc_law_double_1 lb_law_double_1) (.cons (.set 5 (.bin .Sub (.cst (.int (52))) (.loc 4))) (.cons (.set 6 (.ite (.cmp .GtE (.loc 5) (.cst (.int (0)))) (.bin .Mult (.loc 1) (.bin .Pow (.cst (.int (2))) (.loc 5))) (.loc 1))) (.cons (.set 7 (.ite (.cmp .GtE (.loc 5) (.cst (.int (0)))) (.loc 2) (.bin .Mult (.loc 2) (.bin .Pow (.cst (.int (2))) (.bin .Sub (.cst (.int (0))) (.loc 5)))))) (.cons (.swap [8, 9] (.tup (.cons (.bin .FloorDiv (.loc 6) (.loc 7)) (.cons (.bin .Mod (.loc 6) (.loc 7)) .nil)))) (.cons (.ite (.or (.cmp .Gt (.bin .Mult (.cst (.int (2))) (.loc 9)) (.loc 7)) (.and (.cmp .Eq (.bin .Mult (.cst (.int (2))) (.loc 9)) (.loc 7)) (.cmp .Eq (.bin .Mod (.loc 8) (.cst (.int (2)))) (.cst (.int (1)))))) (.cons (.set 8 (.bin .Add (.loc 8) (.cst (.int (1))))) .nil) .nil) (.cons (.ite (.cmp .Eq (.loc 8) (.bin .Pow (.cst (.int (2))) (.cst (.int (53))))) (.cons (.swap [8, 4] (.tup (.cons (.bin .Pow (.cst (.int (2))) (.cst (.int (52)))) (.cons (.bin .Add (.loc 4) (.cst (.int (1)))) .nil)))) .nil) .nil) (.cons (.ret (.bin .Sub (.bin .Add (.bin .Add (.loc 3) (.bin .Mult (.bin .Add (.loc 4) (.cst (.int (1023)))) (.bin .Pow (.cst (.int (2))) (.cst (.int (52)))))) (.loc 8)) (.bin .Pow (.cst (.int (2))) (.cst (.int (52)))))) .nil))))))))))))⟩
theorem c_law_double : compile (st 77) = p_law_double := by kernel_rfl
theorem b_law_double : ∀ vs : List Value, vs.length = (psOf (st 77)).length → bindArgs (fdOf (st 77) "_law_double" "_law_double" (S "law_pc0078_01" 837) (R 438) 3) ⟨vs, []⟩ = pure ((psOf (st 77)).zip vs) := fun vs h => by
  rw [show (psOf (st 77)).length = 3 by kernel_rfl] at h
  obtain ⟨v1, v2, v3, rfl⟩ := len3 h
  kernel_rfl
theorem g_law_double (w : World) : FnGood w 439 p_law_double := good_of (s := (st 77)) (name := "_law_double") (qual := "_law_double") (pm := (S "law_pc0078_01" 837)) (c := 438) (by kernel_rfl) (by kernel_rfl) (by kernel_rfl) b_law_double c_law_double
noncomputable def p_law_number : Fn := ⟨1, 10,
    (.cons (.set 1 (.cmp .Eq (.call 432 (.cons (.loc 0) (.cons (.cst (.int (2))) .nil))) (.cst (.int (1))))) (.cons (.set 2 (.ilst (.cons (.call 432 (.cons (.loc 0) (.cons (.cst (.int (10))) .nil))) (.cons (.call 432 (.cons (.loc 0) (.cons (.cst (.int (1000))) .nil))) (.cons (.bin .Add (.bin .Sub (.bin .Pow (.cst (.int (2))) (.cst (.int (53)))) (.cst (.int (1)))) (.call 432 (.cons (.loc 0) (.cons (.cst (.int (9))) .nil)))) .nil))))) (.cons (.set 3 (.bi 7 (.cons (.item (.loc 2) (.call 432 (.cons (.loc 0) (.cons (.cst (.int (3))) .nil)))) .nil))) (.cons (.set 4 (.item (.ilst (.cons (.cst (.str [])) (.cons (.cst (.str [53])) (.cons (.cst (.str [49, 50, 53])) (.cons (.cst (.str [48])) (.cons (.cst (.str [51])) .nil)))))) (.call 432 (.cons (.loc 0) (.cons (.cst (.int (5))) .nil))))) (.cons (.set 5 (.bin .Sub (.call 432 (.cons (.loc 0) (.cons (.cst (.int (25))) .nil))) (.cst (.int (12))))) (.cons (.set 6 (.item (.ilst (.cons (.cst (.str [])) (.cons (.cst (.str [101])) (.cons (.cst (.str [69])) .nil)))) (.call 432 (.cons (.loc 0) (.cons (.cst (.int (3))) .nil))))) (.cons (.set 7 (.bin .Add (.bin .Add (.ite (.loc 1) (.cst (.str [45])) (.cst (.str []))) (.loc 3)) (.ite (.cmp .NotEq (.loc 4) (.cst (.str []))) (.bin .Add (.cst (.str [46])) (.loc 4)) (.cst (.str []))))) (.cons (.ite (.cmp .NotEq (.loc 6) (.cst (.str []))) (.cons (.set 7 (.bin .Add (.bin .Add (.bin .Add (.loc 7) (.loc 6)) (.ite (.and (.cmp .GtE (.loc 5) (.cst (.int (0)))) (.cmp .Eq (.bin .Mod (.loc 5) (.cst (.int (2)))) (.cst (.int (0))))) (.cst (.str [43])) (.cst (.str [])))) (.bi 7 (.cons (.loc 5) .nil)))) .nil) (.cons (.set 5 (.cst (.int (0)))) .nil)) (.cons (.swap [8, 5] (.tup (.cons (.bi 6 (.cons (.bin .Add (.loc 3) (.loc 4)) .nil)) (.cons (.bin .Sub (.loc 5) (.bi 0 (.cons (.loc 4) .nil))) .nil)))) (.cons (.set 9 (.call 439 (.cons (.loc 1) (.cons (.bin .Mult (.loc 8) (.bin .Pow (.cst (.int (10))) (.bi 4 (.cons (.cst (.int (0))) (.cons (.loc 5) .nil))))) (.cons (.bin .Pow (.cst (.int (10))) (.bi 4 (.cons (.cst (.int (0))) (.cons (.bin .Sub (.cst (.int (0))) (.loc 5)) .nil)))) .nil))))) (.cons (.ret (.tup (.cons (.loc 7) (.cons (.loc 9) (.cons (.bi 6 (.cons (.loc 3) .nil)) (.cons (.and (.cmp .Eq (.loc 4) (.cst (.str []))) (.cmp .Eq (.loc 6) (.cst (.str [])))) .nil)))))) .nil)))))))))))⟩
theorem c_law_number : compile (st 78) = p_law_number := by kernel_rfl
theorem b_law_number : ∀ vs : List Value, vs.length = (psOf (st 78)).length → bindArgs (fdOf (st 78) "_law_number" "_law_number" (S "law_pc0078_01" 837) (R 445) 3) ⟨vs, []⟩ = pure ((psOf (st 78)).zip vs) := fun vs h => by
  rw [show (psOf (st 78)).length = 1 by kernel_rfl] at h
  obtain ⟨v1, rfl⟩ := len1 h
  kernel_rfl
theorem g_law_number (w : World) : FnGood w 446 p_law_number := good_of (s := (st 78)) (name := "_law_number") (qual := "_law_number") (pm := (S "law_pc0078_01" 837)) (c := 445) (by kernel_rfl) (by kernel_rfl) (by kernel_rfl) b_law_number c_law_number
noncomputable def p_law_number_right : Fn := ⟨1, 6,
    (.cons (.tset [.loc 1, .loc 2, .loc 3, .loc 4] (.call 446 (.cons (.loc 0) .nil))) (.cons (.ite (.or (.cmp .NotEq (.call 204 (.cons (.bin .Add (.loc 1) (.cst (.str [32]))) (.cons (.cst (.int (0))) .nil))) (.tup (.cons (.loc 2) (.cons (.bi 0 (.cons (.loc 1) .nil)) .nil)))) (.cmp .NotEq (.call 225 (.cons (.bin .Add (.loc 1) (.cst (.str [44]))) (.cons (.cst (.int (0))) .nil))) (.tup (.cons (.tup (.cons (.cst (.str [110, 117, 109, 98, 101, 114])) (.cons (.loc 2) .nil))) (.cons (.bi 0 (.cons (.loc 1) .nil)) .nil))))) (.cons (.ret (.cst (.bool false))) .nil) .nil) (.cons (.set 5 (.call 392 (.cons (.tup (.cons (.cst (.str [110, 117, 109, 98, 101, 114])) (.cons (.loc 2) .nil))) .nil))) (.cons (.ite (.cmp .Eq (.bin .Mod (.loc 2) (.bin .Pow (.cst (.int (2))) (.cst (.int (63))))) (.cst (.int (0)))) (.cons (.ret (.cmp .Eq (.loc 5) (.cst (.str [48])))) .nil) .nil) (.cons (.ite (.and (.loc 4) (.and (.cmp .LtE (.loc 3) (.bin .Pow (.cst (.int (2))) (.cst (.int (53))))) (.cmp .NotEq (.loc 5) (.loc 1)))) (.cons (.ret (.cst (.bool false))) .nil) .nil) (.cons (.ret (.and (.cmp .Eq (.call 295 (.cons (.loc 5) .nil)) (.tup (.cons (.cst (.str [110, 117, 109, 98, 101, 114])) (.cons (.loc 2) .nil)))) (.cmp .Eq (.call 411 (.cons (.tup (.cons (.cst (.str [97, 114, 114, 97, 121])) (.cons (.ilst (.cons (.tup (.cons (.cst (.str [110, 117, 109, 98, 101, 114])) (.cons (.loc 2) .nil))) .nil)) .nil))) (.cons (.cst (.str [])) .nil))) (.bin .Add (.bin .Add (.cst (.str [91])) (.loc 5)) (.cst (.str [93])))))) .nil))))))⟩
theorem c_law_number_right : compile (st 79) = p_law_number_right := by kernel_rfl
theorem b_law_number_right : ∀ vs : List Value, vs.length = (psOf (st 79)).length → bindArgs (fdOf (st 79) "_law_number_right" "_law_number_right" (S "law_pc0078_01" 837) (R 452) 3) ⟨vs, []⟩ = pure ((psOf (st 79)).zip vs) := fun vs h => by
  rw [show (psOf (st 79)).length = 1 by kernel_rfl] at h
  obtain ⟨v1, rfl⟩ := len1 h
  kernel_rfl
theorem g_law_number_right (w : World) : FnGood w 453 p_law_number_right := good_of (s := (st 79)) (name := "_law_number_right") (qual := "_law_number_right") (pm := (S "law_pc0078_01" 837)) (c := 452) (by kernel_rfl) (by kernel_rfl) (by kernel_rfl) b_law_number_right c_law_number_right
noncomputable def lb_law_string_0 : MB := (.cons (.tset [.loc 5, .loc 6] (.tup (.cons (.item (.call 418 .nil) (.call 432 (.cons (.loc 0) (.cons (.cst (.int (13))) .nil)))) (.cons (.call 432 (.cons (.loc 0) (.cons (.cst (.int (3))) .nil))) .nil)))) (.cons (.set 7 (.bin .Add (.cst (.str [48, 49, 50, 51, 52, 53, 54, 55, 56, 57])) (.ite (.cmp .Eq (.loc 6) (.cst (.int (1)))) (.cst (.str [97, 98, 99, 100, 101, 102])) (.cst (.str [65, 66, 67, 68, 69, 70]))))) (.cons (.set 8 (.join (.cst (.str [])) (.comp (.tup (.cons (.cst (.int (3))) (.cons (.cst (.int (2))) (.cons (.cst (.int (1))) (.cons (.cst (.int (0))) .nil))))) [5, 7] (.item (.loc 2) (.bin .Mod (.bin .FloorDiv (.loc 1) (.bin .Pow (.cst (.int (16))) (.loc 0))) (.cst (.int (16)))))))) (.cons (.ite (.and (.cmp .In (.loc 5) (.call 425 .nil)) (.cmp .Eq (.loc 6) (.cst (.int (0))))) (.cons (.set 2 (.bin .Add (.loc 2) (.item (.call 425 .nil) (.loc 5)))) .nil) (.cons (.ite (.and (.cmp .Eq (.loc 5) (.cst (.int (47)))) (.cmp .Eq (.loc 6) (.cst (.int (0))))) (.cons (.set 2 (.bin .Add (.loc 2) (.cst (.str [92, 47])))) .nil) (.cons (.ite (.or (.cmp .Lt (.loc 5) (.cst (.int (32)))) (.or (.cmp .In (.loc 5) (.call 425 .nil)) (.cmp .Eq (.loc 6) (.cst (.int (1)))))) (.cons (.set 2 (.bin .Add (.bin .Add (.loc 2) (.cst (.str [92, 117]))) (.loc 8))) .nil) (.cons (.set 2 (.bin .Add (.loc 2) (.bi 2 (.cons (.loc 5) .nil)))) .nil)) .nil)) .nil)) (.cons (.set 1 (.bin .Add (.loc 1) (.bi 2 (.cons (.loc 5) .nil)))) (.cons (.ite (.cmp .In (.loc 5) (.call 425 .nil)) (.cons (.set 3 (.bin .Add (.loc 3) (.item (.call 425 .nil) (.loc 5)))) .nil) (.cons (.set 3 (.bin .Add (.loc 3) (.ite (.cmp .GtE (.loc 5) (.cst (.int (32)))) (.bi 2 (.cons (.loc 5) .nil)) (.bin .Add (.bin .Add (.cst (.str [92, 117, 48, 48])) (.item (.cst (.str [48, 49])) (.bin .FloorDiv (.loc 5) (.cst (.int (16)))))) (.item (.cst (.str [48, 49, 50, 51, 52, 53, 54, 55, 56, 57, 97, 98, 99, 100, 101, 102])) (.bin .Mod (.loc 5) (.cst (.int (16))))))))) .nil)) .nil))))))
noncomputable def p_law_string : Fn := ⟨1, 9,
    (.cons (.tset [.loc 1, .loc 2, .loc 3] (.tup (.cons (.cst (.str [])) (.cons (.cst (.str [])) (.cons (.cst (.str [])) .nil))))) (.cons (.for1 4 (.range1 (.call 432 (.cons (.loc 0) (.cons (.cst (.int (5))) .nil)))) lb_law_string_0) (.cons (.ret (.tup (.cons (.loc 1) (.cons (.bin .Add (.bin .Add (.cst (.str [34])) (.loc 2)) (.cst (.str [34]))) (.cons (.bin .Add (.bin .Add (.cst (.str [34])) (.loc 3)) (.cst (.str [34]))) .nil))))) .nil)))⟩
theorem c_law_string : compile (st 80) = p_law_string := by kernel_rfl
theorem b_law_string : ∀ vs : List Value, vs.length = (psOf (st 80)).length → bindArgs (fdOf (st 80) "_law_string" "_law_string" (S "law_pc0078_01" 837) (R 457) 3) ⟨vs, []⟩ = pure ((psOf (st 80)).zip vs) := fun vs h => by
  rw [show (psOf (st 80)).length = 1 by kernel_rfl] at h
  obtain ⟨v1, rfl⟩ := len1 h
  kernel_rfl
theorem g_law_string (w : World) : FnGood w 458 p_law_string := good_of (s := (st 80)) (name := "_law_string") (qual := "_law_string") (pm := (S "law_pc0078_01" 837)) (c := 457) (by kernel_rfl) (by kernel_rfl) (by kernel_rfl) b_law_string c_law_string
noncomputable def lb_law_0 : MB := (.cons (.ite (.or (.cmp .NotEq (.call 225 (.cons (.bin .Add (.bin .Add (.cst (.str [91])) (.loc 6)) (.cst (.str [93]))) (.cons (.cst (.int (1))) .nil))) (.tup (.cons (.loc 7) (.cons (.bin .Add (.cst (.int (1))) (.bi 0 (.cons (.loc 6) .nil))) .nil)))) (.cmp .NotEq (.call 392 (.cons (.loc 7) .nil)) (.loc 6))) (.cons (.ret (.cst (.bool false))) .nil) .nil) .nil)
noncomputable def p_law : Fn := ⟨1, 8,
    (.cons (.set 1 (.arr (.cons (.cst (.int (0))) (.cons (.comp (.slice (.loc 0) .no (.yes (.cst (.int (30))))) [] (.bi 3 (.cons (.bi 6 (.cons (.loc 0) .nil)) .nil))) .nil)))) (.cons (.ite (.not (.call 453 (.cons (.loc 1) .nil))) (.cons (.ret (.cst (.bool false))) .nil) .nil) (.cons (.tset [.loc 2, .loc 3, .loc 4] (.call 458 (.cons (.loc 1) .nil))) (.cons (.ite (.cmp .NotEq (.call 218 (.cons (.bin .Add (.bin .Add (.cst (.str [91])) (.loc 3)) (.cst (.str [93]))) (.cons (.cst (.int (1))) .nil))) (.tup (.cons (.loc 2) (.cons (.bin .Add (.cst (.int (1))) (.bi 0 (.cons (.loc 3) .nil))) .nil)))) (.cons (.ret (.cst (.bool false))) .nil) .nil) (.cons (.ite (.cmp .NotEq (.call 295 (.cons (.bin .Add (.loc 3) (.cst (.str [10]))) .nil)) (.tup (.cons (.cst (.str [115, 116, 114, 105, 110, 103])) (.cons (.loc 2) .nil)))) (.cons (.ret (.cst (.bool false))) .nil) .nil) (.cons (.ite (.or (.cmp .NotEq (.call 392 (.cons (.tup (.cons (.cst (.str [115, 116, 114, 105, 110, 103])) (.cons (.loc 2) .nil))) .nil)) (.loc 4)) (.cmp .NotEq (.call 295 (.cons (.loc 4) .nil)) (.tup (.cons (.cst (.str [115, 116, 114, 105, 110, 103])) (.cons (.loc 2) .nil))))) (.cons (.ret (.cst (.bool false))) .nil) .nil) (.cons (.set 5 (.ilst (.cons (.tup (.cons (.cst (.str [116, 114, 117, 101])) (.cons (.tup (.cons (.cst (.str [98, 111, 111, 108])) (.cons (.cst (.bool true)) .nil))) .nil))) (.cons (.tup (.cons (.cst (.str [102, 97, 108, 115, 101])) (.cons (.tup (.cons (.cst (.str [98, 111, 111, 108])) (.cons (.cst (.bool false)) .nil))) .nil))) (.cons (.tup (.cons (.cst (.str [110, 117, 108, 108])) (.cons (.tup (.cons (.cst (.str [110, 117, 108, 108])) (.cons (.cst .none) .nil))) .nil))) .nil))))) (.cons (.forN [6, 7] (.val (.loc 5)) lb_law_0) (.cons (.set 7 (.tup (.cons (.cst (.str [111, 98, 106, 101, 99, 116])) (.cons (.ilst (.cons (.tup (.cons (.loc 2) (.cons (.tup (.cons (.cst (.str [98, 111, 111, 108])) (.cons (.cst (.bool true)) .nil))) .nil))) (.cons (.tup (.cons (.cst (.str [107])) (.cons (.tup (.cons (.cst (.str [115, 107, 105, 112])) (.cons (.cst .none) .nil))) .nil))) .nil))) .nil)))) (.cons (.ret (.cmp .Eq (.call 411 (.cons (.loc 7) (.cons (.cst (.str [32])) .nil))) (.bin .Add (.bin .Add (.cst (.str [123, 10, 32])) (.loc 4)) (.cst (.str [58, 32, 116, 114, 117, 101, 10, 125]))))) .nil))))))))))⟩
theorem c_law : compile (st 81) = p_law := by kernel_rfl
theorem b_law : ∀ vs : List Value, vs.length = (psOf (st 81)).length → bindArgs (fdOf (st 81) "law" "law" (S "law_pc0078_01" 837) (R 462) 3) ⟨vs, []⟩ = pure ((psOf (st 81)).zip vs) := fun vs h => by
  rw [show (psOf (st 81)).length = 1 by kernel_rfl] at h
  obtain ⟨v1, rfl⟩ := len1 h
  kernel_rfl
theorem g_law (w : World) : FnGood w 463 p_law := good_of (s := (st 81)) (name := "law") (qual := "law") (pm := (S "law_pc0078_01" 837)) (c := 462) (by kernel_rfl) (by kernel_rfl) (by kernel_rfl) b_law c_law
noncomputable def progTab : List (Nat × Fn) := ([(21, p_width), (28, p_pack), (35, p_is_negative), (42, p_is_nan), (49, p_is_inf), (56, p_is_finite), (63, p_is_zero), (70, p_signed), (77, p_parts), (84, p_quotient), (91, p_round_ratio), (98, p_assembled), (105, p_figure_of), (112, p_run_end)] : List (Nat × Fn)) ++ ([(119, p_worth), (126, p_from_decimal), (133, p_sign_at), (140, p_turned), (147, p_exponent_at), (190, p_json_sign), (197, p_skip_json_blanks), (204, p_json_number), (211, p_json_hex_unit), (218, p_json_string), (225, p_json_plain), (239, p_init), (246, p_skip), (267, p_next_tree)] : List (Nat × Fn)) ++ ([(274, p_settled), (281, p_whole), (295, p_read_json), (302, p_scaled), (309, p_decimal_place), (316, p_first_place), (323, p_shortest), (330, p_last_figure), (337, p_signed_exponent), (344, p_with_exponent), (351, p_laid_out), (358, p_without_figures), (365, p_show), (373, p_json_quoted_sign)] : List (Nat × Fn)) ++ ([(378, p_json_quoted), (385, p_json_number_text), (392, p_json_plain_text), (399, p_json_rows), (404, p_json_laid), (411, p_show_json), (418, p_law_signs), (425, p_law_short), (432, p_law_next), (439, p_law_double), (446, p_law_number), (453, p_law_number_right), (458, p_law_string), (463, p_law)] : List (Nat × Fn))
noncomputable def prog (a : Nat) : Option Fn := progTab.lookup a
theorem all_cons {α : Type} {P : α → Prop} {a : α} {l : List α} (h : P a) (h2 : ∀ x ∈ l, P x) : ∀ x ∈ a :: l, P x := List.forall_mem_cons.mpr ⟨h, h2⟩
theorem all_nil {α : Type} {P : α → Prop} : ∀ x ∈ ([] : List α), P x := fun _ h => by cases h
theorem all_app {α : Type} {P : α → Prop} {l m : List α} (h : ∀ x ∈ l, P x) (h2 : ∀ x ∈ m, P x) : ∀ x ∈ l ++ m, P x := fun x hx => (List.mem_append.mp hx).elim (h x) (h2 x)
theorem gc_0 (w : World) : ∀ p ∈ ([(21, p_width), (28, p_pack), (35, p_is_negative), (42, p_is_nan), (49, p_is_inf), (56, p_is_finite), (63, p_is_zero), (70, p_signed), (77, p_parts), (84, p_quotient), (91, p_round_ratio), (98, p_assembled), (105, p_figure_of), (112, p_run_end)] : List (Nat × Fn)), FnGood w p.1 p.2 :=
  all_cons (g_width w) (all_cons (g_pack w) (all_cons (g_is_negative w) (all_cons (g_is_nan w) (all_cons (g_is_inf w) (all_cons (g_is_finite w) (all_cons (g_is_zero w) (all_cons (g_signed w) (all_cons (g_parts w) (all_cons (g_quotient w) (all_cons (g_round_ratio w) (all_cons (g_assembled w) (all_cons (g_figure_of w) (all_cons (g_run_end w) all_nil)))))))))))))
theorem gc_14 (w : World) : ∀ p ∈ ([(119, p_worth), (126, p_from_decimal), (133, p_sign_at), (140, p_turned), (147, p_exponent_at), (190, p_json_sign), (197, p_skip_json_blanks), (204, p_json_number), (211, p_json_hex_unit), (218, p_json_string), (225, p_json_plain), (239, p_init), (246, p_skip), (267, p_next_tree)] : List (Nat × Fn)), FnGood w p.1 p.2 :=
  all_cons (g_worth w) (all_cons (g_from_decimal w) (all_cons (g_sign_at w) (all_cons (g_turned w) (all_cons (g_exponent_at w) (all_cons (g_json_sign w) (all_cons (g_skip_json_blanks w) (all_cons (g_json_number w) (all_cons (g_json_hex_unit w) (all_cons (g_json_string w) (all_cons (g_json_plain w) (all_cons (g_init w) (all_cons (g_skip w) (all_cons (g_next_tree w) all_nil)))))))))))))
theorem gc_28 (w : World) : ∀ p ∈ ([(274, p_settled), (281, p_whole), (295, p_read_json), (302, p_scaled), (309, p_decimal_place), (316, p_first_place), (323, p_shortest), (330, p_last_figure), (337, p_signed_exponent), (344, p_with_exponent), (351, p_laid_out), (358, p_without_figures), (365, p_show), (373, p_json_quoted_sign)] : List (Nat × Fn)), FnGood w p.1 p.2 :=
  all_cons (g_settled w) (all_cons (g_whole w) (all_cons (g_read_json w) (all_cons (g_scaled w) (all_cons (g_decimal_place w) (all_cons (g_first_place w) (all_cons (g_shortest w) (all_cons (g_last_figure w) (all_cons (g_signed_exponent w) (all_cons (g_with_exponent w) (all_cons (g_laid_out w) (all_cons (g_without_figures w) (all_cons (g_show w) (all_cons (g_json_quoted_sign w) all_nil)))))))))))))
theorem gc_42 (w : World) : ∀ p ∈ ([(378, p_json_quoted), (385, p_json_number_text), (392, p_json_plain_text), (399, p_json_rows), (404, p_json_laid), (411, p_show_json), (418, p_law_signs), (425, p_law_short), (432, p_law_next), (439, p_law_double), (446, p_law_number), (453, p_law_number_right), (458, p_law_string), (463, p_law)] : List (Nat × Fn)), FnGood w p.1 p.2 :=
  all_cons (g_json_quoted w) (all_cons (g_json_number_text w) (all_cons (g_json_plain_text w) (all_cons (g_json_rows w) (all_cons (g_json_laid w) (all_cons (g_show_json w) (all_cons (g_law_signs w) (all_cons (g_law_short w) (all_cons (g_law_next w) (all_cons (g_law_double w) (all_cons (g_law_number w) (all_cons (g_law_number_right w) (all_cons (g_law_string w) (all_cons (g_law w) all_nil)))))))))))))
theorem prog_good (w : World) : ∀ a f, prog a = some f → FnGood w a f := fun a f h => (all_app (all_app (all_app (gc_0 w) (gc_14 w)) (gc_28 w)) (gc_42 w)) (a, f) (lookup_mem h)
noncomputable abbrev F0 : Nat := 100000
noncomputable abbrev run (d : Nat) := callM prog F0 d
theorem run_sound (w : World) (d : Nat) : OkC w (10 * d) (run d) := callM_sound (prog_good w) d
end Mine
namespace Mine
theorem int_of {R : WRecords} {d : WData} (h : WShape.has R d .int = true) : ∃ i, d = .int i := by
  cases d <;> first | exact ⟨_, rfl⟩ | exact absurd h Bool.false_ne_true
theorem list_of {R : WRecords} {d : WData} (h : WShape.has R d (.list .int) = true) : ∃ ds, d = .list ds ∧ WShape.hasItems R ds .int = true := by
  cases d <;> first | (rename_i ds; exact ⟨ds, rfl, by rw [show WShape.has R (.list ds) (.list .int) = (WShape.hasItems R ds .int || false) from rfl, Bool.or_false] at h; exact h⟩) | exact absurd h Bool.false_ne_true
theorem ints_all {R : WRecords} : ∀ {ds : List WData}, WShape.hasItems R ds .int = true → ∃ xs : List Int, ds = xs.map .int
  | [], _ => ⟨[], rfl⟩
  | d :: ds, h => by
    simp only [WShape.hasItems, Bool.and_eq_true] at h
    obtain ⟨i, rfl⟩ := int_of h.1
    obtain ⟨xs, rfl⟩ := ints_all h.2
    exact ⟨i :: xs, rfl⟩
theorem args_are {args : List WData} (h : rwL.row.toRowW.claim.pre args = true) : ∃ xs : List Int, args = [.list (xs.map .int)] ∧ xs.length ≤ 63 := by
  have h' : (WShape.hasAll rwL.row.toRowW.records args [.list .int] && rwL.row.toRowW.pre.holds rwL.row.toRowW.records { args := args }) = true := h
  obtain ⟨h1, h2⟩ := Bool.and_eq_true_iff.mp h'
  match args, h1 with
  | [], h1 => simp [WShape.hasAll] at h1
  | d :: r, h1 =>
    simp only [WShape.hasAll, Bool.and_eq_true] at h1
    obtain ⟨ds, rfl, hi⟩ := list_of h1.1
    obtain ⟨xs, rfl⟩ := ints_all hi
    have hr : r = [] := by
      cases r with
      | nil => rfl
      | cons _ _ => simp [WShape.hasAll] at h1
    subst hr
    refine ⟨xs, rfl, ?_⟩
    have h3 : (WTm.and (.not (.lt (.lit (.int 63)) (.len (.arg 0)))) (.lit (.bool true))).holds rwL.row.toRowW.records { args := [.list (xs.map .int)] } = true := h2
    simp [WTm.holds, WTm.value] at h3
    have e : less? (WData.int 63) (WData.int xs.length) = some (decide ((63 : Int) < xs.length)) := rfl
    rw [e] at h3
    by_cases hq : (63 : Int) < xs.length
    · simp [hq] at h3
    · lia
theorem Ns_unique {h : Heap} {a : Addr} {m m' : Str → Option Value} (x : h.Ns a m) (y : h.Ns a m') : m = m' := by
  obtain ⟨o, es, ep, e, hd, hst, hf⟩ := x
  obtain ⟨o', es', ep', e', hd', hst', hf'⟩ := y
  rw [e] at e'; cases e'
  rw [hd] at hd'; cases hd'
  exact (show (fun y => nsFind _ y) = m from funext hf).symm.trans (funext hf')
theorem reads_ints {R : WRecords} {cl : Str → Option Addr} {h : Heap} {ρ : List Addr} : ∀ {xs : List Int} {vs : List Value} {as : List Addr}, ReadsAllW R cl h vs (xs.map .int) as → RepL h ρ vs (xs.map .int)
  | [], vs, as, r => by cases r; exact .nil
  | x :: xs, vs, as, r => by
    rw [List.map_cons] at r
    cases r with
    | cons r1 r2 =>
      cases r1
      exact .cons (.int _ _) (reads_ints r2)
theorem post_true (args : List WData) : rwL.row.toRowW.claim.post args (.bool true) args = true := by
  kernel_rfl
theorem law_holds (d : Nat) (hd' : d ≤ 40) (hlaw : ∀ xs : List Int, xs.length ≤ 63 → ∃ σ', run d 463 [.lst (xs.map .int)] [] = some (.bool true, σ')) : rwL.Holds := by
  refine hd fun w s₀ s₁ mg mb G Y a o pm cd doc dV kV h2 h3 h4 h5 h6 hg args vals as hpre hlay hreads hwell hlow => ?_
  obtain ⟨xs, rfl, hlen⟩ := args_are hpre
  obtain ⟨σ', hrun⟩ := hlaw xs hlen
  have hi : Inv w s₁.heap := Y
  have hmg : mg = (H1 w.params).nsMap mainGlobals := Ns_unique G.T.g hi.gl
  have e463 : (H1 w.params).nsMap mainGlobals (Str.ofString "law") = some (.ref 463) := by kernel_rfl
  have ea : a = 463 := by
    have : mg (Str.ofString "law") = some (.ref a) := h6
    rw [hmg, e463] at this
    cases this; rfl
  subst ea
  have hcall := run_sound w d _ _ _ _ _ hrun
  refine wpAny_call ?_
  cases hreads with
  | cons r1 r2 =>
    cases r2
    cases r1 with
    | @list L o' vs n ys as' ho hc hd ra =>
      have hrep : RepL s₁.heap [] [.ref L] [.lst (xs.map .int)] := .cons (.lst (vs := vs.toList) ⟨o', ho, hc, n, by simpa using hd⟩ (by simp) (reads_ints (ρ := []) ra).1 (reads_ints (ρ := []) ra).2) .nil
      refine hcall callerA s₁ [] _ _ ⟨rfl, ?_, ?_⟩ hi ⟨rfl, List.nodup_nil, fun _ _ _ e => by simp at e, fun _ h => by cases h⟩ hrep fun u h' tk ρ' g s' r' => ?_
      · show 1 + claimMargin + 10 * d < 900
        unfold claimMargin; lia
      · show 4 + 8 * (10 * d) < 9900
        lia
      · cases r'
        refine ⟨.inl ⟨_, .bool true, [], rfl, fun _ => rfl, .bool true, post_true _, fun _ => ⟨List.nodup_nil, fun _ h => by cases h⟩⟩, .of_keep fun b o e => g.keep b o (by simp) e, rfl, .of_eq hg⟩
end Mine
namespace Mine
/-! ## rewriting lemmas of the mini interpreter -/
theorem lget_zero (a : Option V) (l : Lo) : lget (a :: l) 0 = a := rfl
theorem lget_succ (a : Option V) (l : Lo) (n : Nat) : lget (a :: l) (n + 1) = lget l n := rfl
theorem guard_t {α : Type} (a : Option α) : guardO true a = a := rfl
theorem ifB_t {α : Type} (a b : α) : ifB true a b = a := rfl
theorem ifB_f {α : Type} (a b : α) : ifB false a b = b := rfl
section
variable (a b : Int) (σ : St) (s t : List Nat) (c : Nat)
theorem o_add : binV .Add (.int a) (.int b) = some (.int (a + b)) := rfl
theorem o_sub : binV .Sub (.int a) (.int b) = some (.int (a - b)) := rfl
theorem o_mul : binV .Mult (.int a) (.int b) = guardO (mulG a b) (some (.int (a * b))) := rfl
theorem o_fdiv : binV .FloorDiv (.int a) (.int b) = guardO (divG a b) (some (.int (a.fdiv b))) := rfl
theorem o_mod : binV .Mod (.int a) (.int b) = guardO (divG a b) (some (.int (a.fmod b))) := rfl
theorem o_pow : binV .Pow (.int a) (.int b) = guardO (powG a b) (some (.int (a ^ b.toNat))) := rfl
theorem o_shl : binV .LShift (.int a) (.int b) = guardO (shlG a b) (some (.int (a * 2 ^ b.toNat))) := rfl
theorem o_shr : binV .RShift (.int a) (.int b) = guardO (decide (0 ≤ b)) (some (.int (a.fdiv (2 ^ b.toNat)))) := rfl
theorem o_and : binV .BitAnd (.int a) (.int b) = some (.int (Builtin.bitAnd a b)) := rfl
theorem o_or : binV .BitOr (.int a) (.int b) = some (.int (Builtin.bitOr a b)) := rfl
theorem o_xor : binV .BitXor (.int a) (.int b) = some (.int (Builtin.bitXor a b)) := rfl
theorem o_adds : binV .Add (.str s) (.str t) = guardO (decide (s.length + t.length ≤ 1000000)) (some (.str (s ++ t))) := rfl
theorem o_muls : binV .Mult (.str s) (.int b) = guardO (decide (s.length ≤ 16) && decide (b.natAbs ≤ 1000)) (some (.str (List.replicate b.toNat s).flatten)) := rfl
theorem c_lt : cmpS σ .Lt (.int a) (.int b) = some (decide (a < b)) := rfl
theorem c_le : cmpS σ .LtE (.int a) (.int b) = some (decide (a ≤ b)) := rfl
theorem c_gt : cmpS σ .Gt (.int a) (.int b) = some (decide (b < a)) := rfl
theorem c_ge : cmpS σ .GtE (.int a) (.int b) = some (decide (b ≤ a)) := rfl
theorem c_eq : cmpS σ .Eq (.int a) (.int b) = some (decide (a = b)) := rfl
theorem beqL : (s == t) = decide (s = t) := by
  by_cases h : s = t
  · subst h; simp
  · simp [h]
theorem c_eqs : cmpS σ .Eq (.str s) (.str t) = some (decide (s = t)) := by rw [← beqL]; rfl
theorem c_nes : cmpS σ .NotEq (.str s) (.str t) = some (!decide (s = t)) := by rw [← beqL]; rfl
theorem c_in1 : cmpS σ .In (.str [c]) (.str t) = some (decide (c ∈ t)) := rfl
theorem c_nin1 : cmpS σ .NotIn (.str [c]) (.str t) = some (!decide (c ∈ t)) := rfl
theorem c_les : cmpV .LtE (.str s) (.str t) = some (!decide (t < s)) := rfl
theorem v_int : asInt (.int a) = some a := rfl
theorem v_bool (u : Bool) : asBool (.bool u) = some u := rfl
theorem v_str : asStr (.str s) = some s := rfl
theorem v_tup (l : List V) : asTup (.tup l) = some l := rfl
theorem v_ref : asRef (.ref c) = some c := rfl
theorem v_obj : asObj (.obj c) = some c := rfl
theorem bi_len {σ : St} {s : List Nat} (h : s.length ≤ 1000) : biV σ 0 [.str s] = some (.int s.length) := by
  show guardO (decide (s.length < 2 ^ 62)) _ = _
  rw [decide_eq_true (Nat.lt_of_le_of_lt h (by decide))]; rfl
theorem bi_ord : biV σ 1 [.str [c]] = some (.int c) := rfl
theorem bi_chr : biV σ 2 [.int a] = guardO (decide (0 ≤ a ∧ a.natAbs ≤ 0x10FFFF)) (some (.str [a.toNat])) := rfl
theorem bi_abs : biV σ 3 [.int a] = some (.int (if a < 0 then -a else a)) := rfl
theorem bi_max : biV σ 4 [.int a, .int b] = some (.int (max a b)) := rfl
theorem bi_min : biV σ 5 [.int a, .int b] = some (.int (min a b)) := rfl
theorem bi_intb (u : Bool) : biV σ 6 [.bool u] = some (.int (if u then 1 else 0)) := rfl
theorem bi_str : biV σ 7 [.int a] = guardO (decide (a.natAbs.log2 < 1920)) (some (.str (Str.ofString (toString a)).cps.toList)) := rfl
end
theorem t_bool (u : Bool) : truthV (.bool u) = some u := rfl
theorem thn_n (Λ : Lo) (σ : St) (f : Lo → St → Option Out) : (Out.next Λ σ).thn f = f Λ σ := rfl
theorem thn_r (v : V) (σ : St) (f : Lo → St → Option Out) : (Out.ret v σ).thn f = some (.ret v σ) := rfl
theorem seq_t (l : List V) : seqV (.tup l) = some l := rfl
theorem seq_l (l : List V) : seqV (.lst l) = some l := rfl
theorem seq_s (l : List Nat) : seqV (.str l) = some (l.map fun c => .str [c]) := rfl
theorem it_val (C : Nat → List V → St → Option (V × St)) (e : MX) (Λ : Lo) (σ : St) : iterM C (.val e) Λ σ = (evalM C e Λ σ).bind fun x => (seqV x.1).map fun l => (l, x.2) := rfl
theorem it_range (C : Nat → List V → St → Option (V × St)) (a b : MX) (Λ : Lo) (σ : St) : iterM C (.range a b) Λ σ = (evalM C a Λ σ).bind fun x => (asInt x.1).bind fun i => (evalM C b Λ x.2).bind fun y => (asInt y.1).bind fun j =>
      guardO (small62 i && small62 j) (some ((List.range (j - i).toNat).map fun (n : Nat) => V.int (i + n), y.2)) := rfl
theorem setN_nil (Λ : Lo) : setN [] [] Λ = some Λ := rfl
theorem setN_cons (i : Nat) (is : List Nat) (v : V) (vs : List V) (Λ : Lo) : setN (i :: is) (v :: vs) Λ = setN is vs (Λ.set i (some v)) := rfl
theorem asg_rev {α : Type} (a : α) (l : List α) : (a :: l).reverse = l.reverse ++ [a] := List.reverse_cons
section
variable (C : Nat → List V → St → Option (V × St)) (F : Nat)
theorem q_m_cst (v : V) (Λ : Lo) (σ : St) : evalM C (.cst v) Λ σ = some (v, σ) := rfl
theorem q_m_loc (i : Nat) (Λ : Lo) (σ : St) : evalM C (.loc i) Λ σ = (lget Λ i).map fun v => (v, σ) := rfl
theorem q_m_bin (o : Operator) (a : MX) (b : MX) (Λ : Lo) (σ : St) : evalM C (.bin o a b) Λ σ = (evalM C a Λ σ).bind fun x => (evalM C b Λ x.2).bind fun y => (binV o x.1 y.1).map fun z => (z, y.2) := rfl
theorem q_m_neg (a : MX) (Λ : Lo) (σ : St) : evalM C (.neg a) Λ σ = (evalM C a Λ σ).bind fun x => (asInt x.1).map fun i => (.int (-i), x.2) := rfl
theorem q_m_not (a : MX) (Λ : Lo) (σ : St) : evalM C (.not a) Λ σ = (evalM C a Λ σ).bind fun x => (truthV x.1).map fun t => (.bool (!t), x.2) := rfl
theorem q_m_cmp (o : CmpOp) (a : MX) (b : MX) (Λ : Lo) (σ : St) : evalM C (.cmp o a b) Λ σ = (evalM C a Λ σ).bind fun x => (evalM C b Λ x.2).bind fun y => (cmpS y.2 o x.1 y.1).map fun t => (.bool t, y.2) := rfl
theorem q_m_chain (o₁ : CmpOp) (o₂ : CmpOp) (a : MX) (b : MX) (c : MX) (Λ : Lo) (σ : St) : evalM C (.chain o₁ o₂ a b c) Λ σ = (evalM C a Λ σ).bind fun x => (evalM C b Λ x.2).bind fun y => (cmpV o₁ x.1 y.1).bind fun t => ifB t ((evalM C c Λ y.2).bind fun z => (cmpV o₂ y.1 z.1).map fun u => (.bool u, z.2)) (some (.bool false, y.2)) := rfl
theorem q_m_and (a : MX) (b : MX) (Λ : Lo) (σ : St) : evalM C (.and a b) Λ σ = (evalM C a Λ σ).bind fun x => (asBool x.1).bind fun t => ifB t (evalM C b Λ x.2) (some (.bool false, x.2)) := rfl
theorem q_m_or (a : MX) (b : MX) (Λ : Lo) (σ : St) : evalM C (.or a b) Λ σ = (evalM C a Λ σ).bind fun x => (asBool x.1).bind fun t => ifB t (some (.bool true, x.2)) (evalM C b Λ x.2) := rfl
theorem q_m_ite (c : MX) (a : MX) (b : MX) (Λ : Lo) (σ : St) : evalM C (.ite c a b) Λ σ = (evalM C c Λ σ).bind fun x => (truthV x.1).bind fun t => ifB t (evalM C a Λ x.2) (evalM C b Λ x.2) := rfl
theorem q_m_tup (l : ML) (Λ : Lo) (σ : St) : evalM C (.tup l) Λ σ = (evalL C l Λ σ).map fun r => (.tup r.1, r.2) := rfl
theorem q_m_ilst (l : ML) (Λ : Lo) (σ : St) : evalM C (.ilst l) Λ σ = (evalL C l Λ σ).map fun r => (.lst r.1, r.2) := rfl
theorem q_m_lst  (Λ : Lo) (σ : St) : evalM C (.lst ) Λ σ = some (.ref σ.length, σ ++ [.list []]) := rfl
theorem q_m_arr (l : ML) (Λ : Lo) (σ : St) : evalM C (.arr l) Λ σ = (evalL C l Λ σ).map fun r => (.ref r.2.length, r.2 ++ [.arr r.1]) := rfl
theorem q_m_call (f : Nat) (l : ML) (Λ : Lo) (σ : St) : evalM C (.call f l) Λ σ = (evalL C l Λ σ).bind fun r => C f r.1 r.2 := rfl
theorem q_m_bi (f : Nat) (l : ML) (Λ : Lo) (σ : St) : evalM C (.bi f l) Λ σ = (evalL C l Λ σ).bind fun r => (biV r.2 f r.1).map fun z => (z, r.2) := rfl
theorem q_m_item (a : MX) (b : MX) (Λ : Lo) (σ : St) : evalM C (.item a b) Λ σ = (evalM C a Λ σ).bind fun x => (evalM C b Λ x.2).bind fun y => (itemV y.2 x.1 y.1).map fun z => (z, y.2) := rfl
theorem q_m_slice (a : MX) (lo : MO) (hi : MO) (Λ : Lo) (σ : St) : evalM C (.slice a lo hi) Λ σ = (evalM C a Λ σ).bind fun x => (evalO C lo Λ x.2).bind fun p => (evalO C hi Λ p.2).bind fun q => (sliceV x.1 p.1 q.1).map fun z => (z, q.2) := rfl
theorem q_m_lstrip (a : MX) (b : MX) (Λ : Lo) (σ : St) : evalM C (.lstrip a b) Λ σ = (evalM C a Λ σ).bind fun x => (asStr x.1).bind fun l => (evalM C b Λ x.2).bind fun y => (asStr y.1).bind fun m => guardO (decide (l.length ≤ 1000)) (some (.str (Txt.lstripChars ⟨l.toArray⟩ ⟨m.toArray⟩).cps.toList, y.2)) := rfl
theorem q_m_join (a : MX) (b : MX) (Λ : Lo) (σ : St) : evalM C (.join a b) Λ σ = (evalM C a Λ σ).bind fun x => (asStr x.1).bind fun sep => (evalM C b Λ x.2).bind fun y => ((listV y.2 y.1).bind strsOf).bind fun ls => guardO (joinFits sep ls) (some (.str (joinL sep ls), y.2)) := rfl
theorem q_m_append (a : MX) (b : MX) (Λ : Lo) (σ : St) : evalM C (.append a b) Λ σ = (evalM C a Λ σ).bind fun x => (asRef x.1).bind fun c => (listAt x.2 c).bind fun _ => (evalM C b Λ x.2).bind fun y => (listAt y.2 c).bind fun l => guardO (decide (l.length ≤ 1000)) (some (.none, y.2.set c (.list (l ++ [y.1])))) := rfl
theorem q_m_field (i : Nat) (n : Nat) (Λ : Lo) (σ : St) : evalM C (.field i n) Λ σ = (lget Λ i).bind fun o => (asObj o).bind fun c => (fldOf σ c (fldName n)).bind fun v => guardO (notG v) (some (v, σ)) := rfl
theorem q_m_meth (a : MX) (f : Nat) (l : ML) (Λ : Lo) (σ : St) : evalM C (.meth a f l) Λ σ = (evalM C a Λ σ).bind fun x => (asObj x.1).bind fun c => (fldsAt x.2 c).bind fun fs => guardO (fs.lookup (methName f)).isNone ((evalL C l Λ x.2).bind fun r => C f (.obj c :: r.1) r.2) := rfl
theorem q_m_new (l : ML) (Λ : Lo) (σ : St) : evalM C (.new l) Λ σ = (evalL C l Λ σ).bind fun r => (C 239 (.obj r.2.length :: r.1) (r.2 ++ [.flds []])).bind fun y => guardO (isNoneB y.1) (some (.obj r.2.length, y.2)) := rfl
theorem q_m_comp (it : MX) (fr : List Nat) (elt : MX) (Λ : Lo) (σ : St) : evalM C (.comp it fr elt) Λ σ = (evalM C it Λ σ).bind fun x => (seqV x.1).bind fun Vs => (mapO (fun u => (evalM C elt (some u :: fr.map (lget Λ)) []).map (·.1)) Vs).bind fun Ys => guardO (frOk Λ fr && compOk Vs Ys) (some (.lst Ys, x.2)) := rfl
theorem q_l_nil  (Λ : Lo) (σ : St) : evalL C (.nil ) Λ σ = some ([], σ) := rfl
theorem q_l_cons (a : MX) (l : ML) (Λ : Lo) (σ : St) : evalL C (.cons a l) Λ σ = (evalM C a Λ σ).bind fun x => (evalL C l Λ x.2).map fun r => (x.1 :: r.1, r.2) := rfl
theorem q_o_no  (Λ : Lo) (σ : St) : evalO C (.no ) Λ σ = some (none, σ) := rfl
theorem q_o_yes (a : MX) (Λ : Lo) (σ : St) : evalO C (.yes a) Λ σ = (evalM C a Λ σ).bind fun x => (asInt x.1).map fun i => (some i, x.2) := rfl
theorem q_s_set (i : Nat) (e : MX) (Λ : Lo) (σ : St) : execM C F (.set i e) Λ σ = (evalM C e Λ σ).map fun x => .next (Λ.set i (some x.1)) x.2 := rfl
theorem q_s_tset (ts : List MG) (e : MX) (Λ : Lo) (σ : St) : execM C F (.tset ts e) Λ σ = (evalM C e Λ σ).bind fun x => (asTup x.1).bind fun vs => (setG ts vs Λ x.2).map fun r => .next r.1 r.2 := rfl
theorem q_s_swap (is : List Nat) (e : MX) (Λ : Lo) (σ : St) : execM C F (.swap is e) Λ σ = (evalM C e Λ σ).bind fun x => (asTup x.1).bind fun vs => guardO (decide (is.length = vs.length)) ((setN is.reverse vs.reverse Λ).map fun r => .next r x.2) := rfl
theorem q_s_aug (i : Nat) (e : MX) (Λ : Lo) (σ : St) : execM C F (.aug i e) Λ σ = (lget Λ i).bind fun u => (asInt u).bind fun a => (evalM C e Λ σ).bind fun x => (asInt x.1).map fun b => .next (Λ.set i (some (.int (a + b)))) x.2 := rfl
theorem q_s_ret (e : MX) (Λ : Lo) (σ : St) : execM C F (.ret e) Λ σ = (evalM C e Λ σ).map fun x => .ret x.1 x.2 := rfl
theorem q_s_expr (e : MX) (Λ : Lo) (σ : St) : execM C F (.expr e) Λ σ = (evalM C e Λ σ).bind fun x => guardO (isNoneB x.1) (some (.next Λ x.2)) := rfl
theorem q_s_ite (c : MX) (a : MB) (b : MB) (Λ : Lo) (σ : St) : execM C F (.ite c a b) Λ σ = (evalM C c Λ σ).bind fun x => (truthV x.1).bind fun t => ifB t (execB C F a Λ x.2) (execB C F b Λ x.2) := rfl
theorem q_s_loop (c : MX) (b : MB) (Λ : Lo) (σ : St) : execM C F (.loop c b) Λ σ = whileM (evalM C c) (execB C F b) F Λ σ := rfl
theorem q_s_for1 (i : Nat) (it : MI) (b : MB) (Λ : Lo) (σ : St) : execM C F (.for1 i it b) Λ σ = (iterM C it Λ σ).bind fun x => forM (fun v Λ => some (Λ.set i (some v))) (execB C F b) x.1 Λ x.2 := rfl
theorem q_s_forN (is : List Nat) (it : MI) (b : MB) (Λ : Lo) (σ : St) : execM C F (.forN is it b) Λ σ = (iterM C it Λ σ).bind fun x => forM (fun v Λ => (asTup v).bind fun xs => setN is xs Λ) (execB C F b) x.1 Λ x.2 := rfl
theorem q_s_setattr (j : Nat) (n : Nat) (e : MX) (Λ : Lo) (σ : St) : execM C F (.setattr j n e) Λ σ = (evalM C e Λ σ).bind fun x => (lget Λ j).bind fun o => (asObj o).bind fun c => (fldsAt x.2 c).bind fun fs => guardO (decide (fs.length ≤ 100)) (some (.next Λ (x.2.set c (.flds (putF (fldName n) x.1 fs))))) := rfl
theorem q_s_setitem (a : MX) (b : MX) (e : MX) (Λ : Lo) (σ : St) : execM C F (.setitem a b e) Λ σ = (evalM C e Λ σ).bind fun x => (evalM C a Λ x.2).bind fun y => (asRef y.1).bind fun c => (evalM C b Λ y.2).bind fun z => (asInt z.1).bind fun i => (arrAt z.2 c).bind fun l => guardO (decide (0 ≤ i ∧ i < l.length ∧ l.length ≤ 1000)) (some (.next Λ (z.2.set c (.arr (l.set i.toNat x.1))))) := rfl
theorem q_b_nil  (Λ : Lo) (σ : St) : execB C F (.nil ) Λ σ = some (.next Λ σ) := rfl
theorem q_b_cons (s : MS) (l : MB) (Λ : Lo) (σ : St) : execB C F (.cons s l) Λ σ = (execM C F s Λ σ).bind fun o => o.thn (execB C F l) := rfl
end
theorem run_eq {d a : Nat} {args : List V} {σ : St} {f : Fn} {o : Out} {Λ : Lo} (h : prog a = some f) (hn : decide (args.length = f.np) = true) (hs : start args f.nn = Λ) (hb : execB (callM prog F0 d) F0 f.body Λ σ = some o) : callM prog F0 (d + 1) a args σ = some o.val := by
  show (prog a).bind _ = _
  rw [h]
  show guardO _ (Option.map Out.val (execB (callM prog F0 d) F0 f.body (start args f.nn) σ)) = _
  rw [hs, hb, hn]; rfl
section
variable {test : Lo → St → Option (V × St)} {body : Lo → St → Option Out} {n : Nat} {Λ Λ₂ : Lo} {σ σ₁ σ₂ : St} {x : V}
theorem while_t (h : test Λ σ = some (x, σ₁)) (ht : truthV x = some true) (hb : body Λ σ₁ = some (.next Λ₂ σ₂)) : whileM test body (n + 1) Λ σ = whileM test body n Λ₂ σ₂ := by
  show (test Λ σ).bind _ = _
  rw [h]
  show (truthV x).bind _ = _
  rw [ht]
  show (body Λ σ₁).bind _ = _
  rw [hb]; rfl
theorem while_r (h : test Λ σ = some (x, σ₁)) (ht : truthV x = some true) {v : V} (hb : body Λ σ₁ = some (.ret v σ₂)) : whileM test body (n + 1) Λ σ = some (.ret v σ₂) := by
  show (test Λ σ).bind _ = _
  rw [h]
  show (truthV x).bind _ = _
  rw [ht]
  show (body Λ σ₁).bind _ = _
  rw [hb]; rfl
theorem while_f (h : test Λ σ = some (x, σ₁)) (ht : truthV x = some false) : whileM test body (n + 1) Λ σ = some (.next Λ σ₁) := by
  show (test Λ σ).bind _ = _
  rw [h]
  show (truthV x).bind _ = _
  rw [ht]; rfl
end
/-! ## sizes -/
theorem sm_nat {n : Nat} (h : n < 2 ^ 9000) : sm (n : Int) = true := by
  unfold sm
  rw [decide_eq_true_eq, Int.natAbs_natCast]
  by_cases h0 : n = 0
  · subst h0; decide
  · exact (Nat.log2_lt h0).mpr h
theorem mulG_nat {a b : Nat} (h : a < 2 ^ 9000) (h2 : b < 2 ^ 9000) : mulG (a : Int) (b : Int) = true := by unfold mulG; rw [sm_nat h, sm_nat h2]; rfl
theorem divG_nat {a : Int} {b : Nat} (h0 : 0 < b) (h2 : b < 2 ^ 9000) : divG a (b : Int) = true := by
  unfold divG
  rw [sm_nat h2, Bool.and_true]
  have : (b : Int) ≠ 0 := by lia
  simpa using this
theorem shlG_nat {a n : Nat} (h : a < 2 ^ 9000) (h2 : n ≤ 100000) : shlG (a : Int) (n : Int) = true := by
  unfold shlG
  rw [sm_nat h]
  have h1 : (0 : Int) ≤ n := by lia
  simp [h1, h2]
theorem powG_nat {a n : Nat} (h : a < 100) (h2 : n ≤ 100000) : powG (a : Int) (n : Int) = true := by
  unfold powG
  have h1 : (0 : Int) ≤ n := by lia
  have h4 : a < 18446744073709551616 := by lia
  simp [h1, h2, h4]
theorem fdiv_nat (a b : Nat) : (a : Int).fdiv (b : Int) = ((a / b : Nat) : Int) := by
  rw [Int.fdiv_eq_ediv_of_nonneg _ (by lia)]; rfl
theorem fmod_nat (a b : Nat) : (a : Int).fmod (b : Int) = ((a % b : Nat) : Int) := by
  rw [Int.fmod_eq_emod_of_nonneg _ (by lia)]; rfl
end Mine
namespace Mine
theorem forM_cons (asg : V → Lo → Option Lo) (body : Lo → St → Option Out) (v : V) (vs : List V) (Λ : Lo) (σ : St) : Mine.forM asg body (v :: vs) Λ σ = (asg v Λ).bind fun Λ₁ => (body Λ₁ σ).bind fun o => o.thn (Mine.forM asg body vs) := rfl
theorem forM_nil (asg : V → Lo → Option Lo) (body : Lo → St → Option Out) (Λ : Lo) (σ : St) : Mine.forM asg body [] Λ σ = some (.next Λ σ) := rfl
theorem log2_is {n k : Nat} (h0 : n ≠ 0) : n.log2 = k ↔ 2 ^ k ≤ n ∧ n < 2 ^ (k + 1) := Nat.log2_eq_iff h0
theorem shr_log {n s : Nat} (h : 2 ^ s ≤ n) : 0 < n / 2 ^ s ∧ (n / 2 ^ s).log2 + s = n.log2 := by
  have hp : 0 < 2 ^ s := Nat.two_pow_pos s
  have h0 : 0 < n / 2 ^ s := Nat.div_pos h hp
  refine ⟨h0, ?_⟩
  have hn : n ≠ 0 := by lia
  have hk : s ≤ n.log2 := (Nat.le_log2 hn).mpr h
  obtain ⟨a, b⟩ := (log2_is hn).mp rfl
  have e : (n / 2 ^ s).log2 = n.log2 - s := by
    refine (log2_is (by lia)).mpr ⟨?_, ?_⟩
    · rw [Nat.le_div_iff_mul_le hp, ← Nat.pow_add]
      rwa [Nat.sub_add_cancel hk]
    · rw [Nat.div_lt_iff_lt_mul hp, ← Nat.pow_add]
      rwa [show n.log2 - s + 1 + s = n.log2 + 1 by lia]
  lia
section
variable (C : Nat → List V → St → Option (V × St)) (σ : St)
theorem wid_c (N M : Int) (u : Option V) (t : Bool) (h : decide (1 * 2 ^ (64 : Int).toNat ≤ N) = t) : evalM C lc_width_0 [some (.int N), some (.int M), u] σ = some (.bool t, σ) := by
  have hg : shlG 1 64 = true := by decide
  simp only [lc_width_0, Option.bind_some, Option.map_some, lget_zero, q_m_cst, q_m_loc, q_m_bin, q_m_cmp, guard_t, o_shl, c_ge, hg, h]
theorem wid_b (N M : Int) (u : Option V) : execB C F0 lb_width_0 [some (.int N), some (.int M), u] σ = some (.next [some (.int (N.fdiv (2 ^ (64 : Int).toNat))), some (.int (M + 64)), u] σ) := by
  have h64 : ((0 : Int) ≤ 64) := by decide
  simp only [lb_width_0, Option.bind_some, Option.map_some, lget_zero, lget_succ, List.set_cons_zero, List.set_cons_succ, q_m_cst, q_m_loc, q_m_bin, q_s_set, q_b_nil, q_b_cons, thn_n, guard_t, o_add, o_shr, decide_true, h64]
theorem wid_s (N M I : Int) (hg : shlG 1 I = true) (h0 : 0 ≤ I) : execB C F0 lb_width_1 [some (.int N), some (.int M), some (.int I)] σ = some (.next (if 1 * 2 ^ I.toNat ≤ N then [some (.int (N.fdiv (2 ^ I.toNat))), some (.int (M + I)), some (.int I)] else [some (.int N), some (.int M), some (.int I)]) σ) := by
  by_cases h : 1 * 2 ^ I.toNat ≤ N
  · rw [if_pos h]
    simp only [lb_width_1, Option.bind_some, Option.map_some, lget_zero, lget_succ, List.set_cons_zero, List.set_cons_succ, q_m_cst, q_m_loc, q_m_bin, q_m_cmp, q_s_set, q_s_ite, q_b_nil, q_b_cons, thn_n, t_bool, guard_t, ifB_t, o_add, o_shl, o_shr, c_ge, decide_true, hg, h, h0]
  · rw [if_neg h]
    simp only [lb_width_1, Option.bind_some, Option.map_some, lget_zero, lget_succ, List.set_cons_zero, List.set_cons_succ, q_m_cst, q_m_loc, q_m_bin, q_m_cmp, q_s_set, q_s_ite, q_b_nil, q_b_cons, thn_n, t_bool, guard_t, ifB_f, o_add, o_shl, o_shr, c_ge, decide_true, decide_false, hg, h, h0]
theorem width_while : ∀ (j n many f : Nat), n ≠ 0 → n.log2 / 64 = j → j < f → ∃ n' many' : Nat, 0 < n' ∧ n' < 2 ^ 64 ∧ many' + n'.log2 = many + n.log2 ∧
    whileM (evalM C lc_width_0) (execB C F0 lb_width_0) f [some (.int n), some (.int many), none] σ = some (.next [some (.int n'), some (.int many'), none] σ)
  | 0, n, many, f + 1, h0, hj, _ => by
    have hl : n.log2 < 64 := by lia
    have hlt : n < 2 ^ 64 := (Nat.log2_lt h0).mp hl
    refine ⟨n, many, by lia, hlt, rfl, ?_⟩
    have hc : ¬ ((1 : Int) * 2 ^ (64 : Int).toNat ≤ (n : Int)) := by
      show ¬ ((1 : Int) * 2 ^ 64 ≤ (n : Int)); lia
    exact while_f (x := .bool false) (σ₁ := σ) (wid_c C σ _ _ _ false (decide_eq_false hc)) rfl
  | j + 1, n, many, f + 1, h0, hj, hf => by
    have hl : 64 ≤ n.log2 := by lia
    have hle : 2 ^ 64 ≤ n := (Nat.le_log2 h0).mp hl
    obtain ⟨p1, p2⟩ := shr_log hle
    obtain ⟨n', many', q1, q2, q3, q4⟩ := width_while j (n / 2 ^ 64) (many + 64) f (by lia) (by lia) (by lia)
    refine ⟨n', many', q1, q2, by lia, ?_⟩
    have hc : ((1 : Int) * 2 ^ (64 : Int).toNat ≤ (n : Int)) := by
      show ((1 : Int) * 2 ^ 64 ≤ (n : Int)); lia
    have e1 : (n : Int).fdiv (2 ^ (64 : Int).toNat) = ((n / 2 ^ 64 : Nat) : Int) := fdiv_nat n (2 ^ 64)
    refine (while_t (x := .bool true) (σ₁ := σ) (wid_c C σ _ _ _ true (decide_eq_true hc)) rfl (wid_b C σ _ _ _)).trans ?_
    rw [e1]; exact q4
theorem width_step (s n many : Nat) (i : Int) (u : Option V) (hi : i = s) (hs : s ≤ 64) : execB C F0 lb_width_1 [some (.int n), some (.int many), some (.int i)] σ =
    some (.next [some (.int ((if 2 ^ s ≤ n then n / 2 ^ s else n : Nat) : Int)), some (.int ((if 2 ^ s ≤ n then many + s else many : Nat) : Int)), some (.int i)] σ) := by
  subst hi
  have hg : shlG 1 s = true := shlG_nat (a := 1) (by decide) (by lia)
  have h0 : (0 : Int) ≤ s := by lia
  have e1 : (n : Int).fdiv (2 ^ (s : Int).toNat) = ((n / 2 ^ s : Nat) : Int) := by
    rw [Int.toNat_natCast]
    have := fdiv_nat n (2 ^ s)
    rw [← this]; congr 1
  have ec : ((1 : Int) * 2 ^ (s : Int).toNat) = ((2 ^ s : Nat) : Int) := by rw [Int.toNat_natCast, Int.one_mul, Int.natCast_pow]; rfl
  rw [wid_s C σ _ _ _ hg h0, e1]
  by_cases h : 2 ^ s ≤ n
  · have hc : ((1 : Int) * 2 ^ (s : Int).toNat ≤ (n : Int)) := by rw [ec]; omega
    rw [if_pos h, if_pos h, if_pos hc]; rfl
  · have hc : ¬ ((1 : Int) * 2 ^ (s : Int).toNat ≤ (n : Int)) := by rw [ec]; omega
    rw [if_neg h, if_neg h, if_neg hc]
noncomputable def wst (s : Nat) (p : Nat × Nat) : Nat × Nat := (if 2 ^ s ≤ p.1 then p.1 / 2 ^ s else p.1, if 2 ^ s ≤ p.1 then p.2 + s else p.2)
theorem wst_ok (s : Nat) (p : Nat × Nat) (h0 : 0 < p.1) (h1 : p.1 < 2 ^ (2 * s)) : 0 < (wst s p).1 ∧ (wst s p).1 < 2 ^ s ∧ (wst s p).2 + (wst s p).1.log2 = p.2 + p.1.log2 := by
  unfold wst
  by_cases h : 2 ^ s ≤ p.1
  · simp only [if_pos h]
    obtain ⟨a, b⟩ := shr_log h
    refine ⟨a, ?_, by lia⟩
    rw [Nat.div_lt_iff_lt_mul (Nat.two_pow_pos s), ← Nat.pow_add, ← Nat.two_mul]
    exact h1
  · simp only [if_neg h]
    exact ⟨h0, by omega, trivial⟩
theorem width_for (n many : Nat) (h0 : 0 < n) (h1 : n < 2 ^ 64) : ∃ u, Mine.forM (fun v Λ => some (Λ.set 2 (some v))) (execB C F0 lb_width_1) [.int 32, .int 16, .int 8, .int 4, .int 2, .int 1] [some (.int n), some (.int many), none] σ =
    some (.next [some (.int 1), some (.int ((many + n.log2 : Nat) : Int)), u] σ) := by
  obtain ⟨a1, a2, a3⟩ := wst_ok 32 (n, many) h0 h1
  dsimp only at a3
  obtain ⟨b1, b2, b3⟩ := wst_ok 16 _ a1 a2
  obtain ⟨c1, c2, c3⟩ := wst_ok 8 _ b1 b2
  obtain ⟨d1, d2, d3⟩ := wst_ok 4 _ c1 c2
  obtain ⟨e1, e2, e3⟩ := wst_ok 2 _ d1 d2
  obtain ⟨f1, f2, f3⟩ := wst_ok 1 _ e1 e2
  have k := fun s i n many u hi hs => width_step C σ s n many i u hi hs
  refine ⟨some (.int 1), ?_⟩
  simp only [forM_cons, forM_nil, Option.bind_some, List.set_cons_zero, List.set_cons_succ, thn_n, k 32 32 _ _ none rfl (by decide), k 16 16 _ _ none rfl (by decide), k 8 8 _ _ none rfl (by decide), k 4 4 _ _ none rfl (by decide), k 2 2 _ _ none rfl (by decide), k 1 1 _ _ none rfl (by decide)]
  have g1 : (wst 1 (wst 2 (wst 4 (wst 8 (wst 16 (wst 32 (n, many))))))).1 = 1 := by lia
  have g2 : (wst 1 (wst 2 (wst 4 (wst 8 (wst 16 (wst 32 (n, many))))))).2 = many + n.log2 := by
    rw [g1] at f3
    have : (1 : Nat).log2 = 0 := by decide
    lia
  rw [← g2]
  exact congrArg (fun x : Nat => some (Out.next [some (.int (x : Int)), some (.int ((wst 1 (wst 2 (wst 4 (wst 8 (wst 16 (wst 32 (n, many))))))).2 : Int)), some (.int 1)] σ)) g1
end
theorem r_width (d n : Nat) (σ : St) (h0 : n ≠ 0) (h : n < 2 ^ 9000) : callM prog F0 (d + 1) 21 [.int n] σ = some (.int ((n.log2 + 1 : Nat) : Int), σ) := by
  have hl : n.log2 < 9000 := (Nat.log2_lt h0).mpr h
  obtain ⟨n', many', q1, q2, q3, q4⟩ := width_while (callM prog F0 d) σ (n.log2 / 64) n 0 F0 h0 rfl (by show _ < 100000; lia)
  obtain ⟨u, hu⟩ := width_for (callM prog F0 d) σ n' many' q1 q2
  refine run_eq (o := .ret (.int ((n.log2 + 1 : Nat) : Int)) σ) (Λ := [some (.int n), none, none]) (f := p_width) rfl rfl rfl ?_
  simp only [p_width, Option.bind_some, Option.map_some, List.set_cons_zero, List.set_cons_succ, q_m_cst, q_s_set, q_s_loop, q_b_cons, thn_n]
  rw [show ((0 : Int)) = ((0 : Nat) : Int) from rfl, q4]
  simp only [Option.bind_some, Option.map_some, lget_zero, lget_succ, q_m_cst, q_m_loc, q_m_bin, q_m_tup, q_l_nil, q_l_cons, q_s_ret, q_s_for1, q_b_cons, thn_n, thn_r, seq_t, it_val, o_add, hu]
  have : ((many' + n'.log2 : Nat) : Int) + 1 = ((n.log2 + 1 : Nat) : Int) := by lia
  rw [this]
end Mine
namespace Mine
/-! ## rounding -/
noncomputable def rnd (U B : Nat) : Nat := U / B + (if B < 2 * (U % B) ∨ (2 * (U % B) = B ∧ U / B % 2 = 1) then 1 else 0)
theorem rnd_mul {c U B : Nat} (hc : 0 < c) : rnd (c * U) (c * B) = rnd U B := by
  unfold rnd
  rw [Nat.mul_div_mul_left _ _ hc, Nat.mul_mod_mul_left]
  have e1 : c * B < 2 * (c * (U % B)) ↔ B < 2 * (U % B) := by rw [Nat.mul_left_comm]; exact Nat.mul_lt_mul_left hc
  have e2 : 2 * (c * (U % B)) = c * B ↔ 2 * (U % B) = B := by rw [Nat.mul_left_comm]; exact Nat.mul_left_cancel_iff hc
  simp only [e1, e2]
theorem rnd_le {U B w : Nat} (hB : 0 < B) (h : U < w * B) : rnd U B ≤ w := by
  unfold rnd
  have : U / B < w := (Nat.div_lt_iff_lt_mul hB).mpr h
  split <;> lia
theorem le_rnd {U B w : Nat} (hB : 0 < B) (h : w * B ≤ U) : w ≤ rnd U B := by
  unfold rnd
  have : w ≤ U / B := (Nat.le_div_iff_mul_le hB).mpr h
  lia
noncomputable def Fit (t b K q : Nat) : Prop := 2 ^ 52 * (b * 2 ^ q) ≤ t * 2 ^ K ∧ t * 2 ^ K < 2 ^ 53 * (b * 2 ^ q)
noncomputable def upN (t : Nat) (p : Int) : Nat := t * 2 ^ (-p).toNat
noncomputable def dnN (b : Nat) (p : Int) : Nat := b * 2 ^ p.toNat
theorem up_eq (t K q : Nat) : t * 2 ^ K = 2 ^ min K q * upN t ((q : Int) - K) := by
  unfold upN
  have : K = min K q + (-((q : Int) - K)).toNat := by lia
  rw [Nat.mul_left_comm, ← Nat.pow_add, ← this]
theorem dn_eq (b K q : Nat) : b * 2 ^ q = 2 ^ min K q * dnN b ((q : Int) - K) := by
  unfold dnN
  have : q = min K q + ((q : Int) - K).toNat := by lia
  rw [Nat.mul_left_comm, ← Nat.pow_add, ← this]
theorem rnd_eq (t b K q : Nat) : rnd (t * 2 ^ K) (b * 2 ^ q) = rnd (upN t ((q : Int) - K)) (dnN b ((q : Int) - K)) := by
  rw [up_eq t K q, dn_eq b K q, rnd_mul (Nat.two_pow_pos _)]
theorem fit_eq {t b K q : Nat} (h : Fit t b K q) : 2 ^ 52 * dnN b ((q : Int) - K) ≤ upN t ((q : Int) - K) ∧ upN t ((q : Int) - K) < 2 ^ 53 * dnN b ((q : Int) - K) := by
  obtain ⟨h1, h2⟩ := h
  rw [up_eq t K q, dn_eq b K q, Nat.mul_left_comm] at h1 h2
  exact ⟨Nat.le_of_mul_le_mul_left h1 (Nat.two_pow_pos _), Nat.lt_of_mul_lt_mul_left h2⟩
theorem fit_log {t b K q : Nat} (ht : t ≠ 0) (hb : b ≠ 0) (h : Fit t b K q) : t.log2 + K ≤ q + b.log2 + 53 ∧ q + b.log2 + 52 ≤ t.log2 + K := by
  obtain ⟨h1, h2⟩ := h
  obtain ⟨a1, a2⟩ := (log2_is ht).mp rfl
  obtain ⟨b1, b2⟩ := (log2_is hb).mp rfl
  constructor
  · have x1 : 2 ^ (t.log2 + K) < 2 ^ (53 + (b.log2 + 1 + q)) := by
      rw [Nat.pow_add, Nat.pow_add 2 53, Nat.pow_add 2 (b.log2 + 1)]
      exact Nat.lt_of_le_of_lt (Nat.mul_le_mul_right _ a1) (Nat.lt_of_lt_of_le h2 (Nat.mul_le_mul_left _ (Nat.mul_le_mul_right _ (Nat.le_of_lt b2))))
    have := (Nat.pow_lt_pow_iff_right (by decide : 1 < 2)).mp x1
    lia
  · have x1 : 2 ^ (52 + (b.log2 + q)) < 2 ^ (t.log2 + 1 + K) := by
      rw [Nat.pow_add, Nat.pow_add 2 b.log2, Nat.pow_add 2 (t.log2 + 1)]
      exact Nat.lt_of_le_of_lt (Nat.le_trans (Nat.mul_le_mul_left _ (Nat.mul_le_mul_right _ b1)) h1) (Nat.mul_lt_mul_of_pos_right a2 (Nat.two_pow_pos _))
    have := (Nat.pow_lt_pow_iff_right (by decide : 1 < 2)).mp x1
    lia
theorem up_lt {t a e : Nat} {p : Int} (ht : t < 2 ^ a) (hp : (-p).toNat ≤ e) : upN t p < 2 ^ (a + e) := by
  unfold upN
  rw [Nat.pow_add]
  exact Nat.lt_of_lt_of_le (Nat.mul_lt_mul_of_pos_right ht (Nat.two_pow_pos _)) (Nat.mul_le_mul_left _ (Nat.pow_le_pow_right (by decide) hp))
theorem dn_lt {t a e : Nat} {p : Int} (ht : t < 2 ^ a) (hp : p.toNat ≤ e) : dnN t p < 2 ^ (a + e) := by
  unfold dnN
  rw [Nat.pow_add]
  exact Nat.lt_of_lt_of_le (Nat.mul_lt_mul_of_pos_right ht (Nat.two_pow_pos _)) (Nat.mul_le_mul_left _ (Nat.pow_le_pow_right (by decide) hp))
theorem dn_pos {b : Nat} {p : Int} (hb : 0 < b) : 0 < dnN b p := Nat.mul_pos hb (Nat.two_pow_pos _)
theorem lt9 {n a : Nat} (h : n < 2 ^ a) (ha : a ≤ 9000) : n < 2 ^ 9000 := Nat.lt_of_lt_of_le h (Nat.pow_le_pow_right (by decide) ha)

/-! ## quotient -/
theorem mul2_cast (a e : Nat) : (a : Int) * 2 ^ e = ((a * 2 ^ e : Nat) : Int) := by rw [Int.natCast_mul, Int.natCast_pow]; rfl
theorem r_quotient (d t b : Nat) (p : Int) (σ : St) (hb : 0 < b) (h1 : t < 2 ^ 4000) (h2 : b < 2 ^ 4000) (hp : p.natAbs ≤ 2000) :
    callM prog F0 (d + 1) 84 [.int t, .int b, .int p] σ = some (.tup [.int ((upN t p / dnN b p : Nat) : Int), .int ((upN t p % dnN b p : Nat) : Int), .int ((dnN b p : Nat) : Int)], σ) := by
  have g1 : divG (upN t p : Int) (dnN b p : Int) = true := divG_nat (dn_pos hb) (lt9 (dn_lt (e := 2000) h2 (by lia)) (by decide))
  refine run_eq (o := .ret (.tup [.int ((upN t p / dnN b p : Nat) : Int), .int ((upN t p % dnN b p : Nat) : Int), .int ((dnN b p : Nat) : Int)]) σ) (Λ := [some (.int t), some (.int b), some (.int p)]) (f := p_quotient) rfl rfl rfl ?_
  by_cases hp0 : 0 ≤ p
  · obtain ⟨e, rfl⟩ := Int.eq_ofNat_of_zero_le hp0
    have e1 : upN t e = t := by unfold upN; rw [show (-(e : Int)).toNat = 0 by lia]; exact Nat.mul_one _
    have e2 : (b : Int) * 2 ^ (e : Int).toNat = ((dnN b e : Nat) : Int) := by unfold dnN; rw [Int.toNat_natCast, mul2_cast]
    rw [e1] at g1 ⊢
    have g2 : shlG b e = true := shlG_nat (lt9 h2 (by decide)) (by lia)
    simp only [p_quotient, Option.bind_some, Option.map_some, lget_zero, lget_succ, List.set_cons_zero, List.set_cons_succ, q_m_cst, q_m_loc, q_m_bin, q_m_neg, q_m_cmp, q_m_tup, q_l_nil, q_l_cons, q_s_set, q_s_ret, q_s_ite, q_b_nil, q_b_cons, thn_n, thn_r, t_bool, guard_t, ifB_t, o_fdiv, o_mod, o_shl, c_ge, v_int, decide_true, hp0, g2, e2, g1, fdiv_nat, fmod_nat]
  · obtain ⟨e, he⟩ := Int.eq_ofNat_of_zero_le (show 0 ≤ -p by lia)
    have e1 : dnN b p = b := by unfold dnN; rw [show p.toNat = 0 by lia]; exact Nat.mul_one _
    have e2 : (t : Int) * 2 ^ (-p).toNat = ((upN t p : Nat) : Int) := by unfold upN; rw [mul2_cast]
    rw [e1] at g1 ⊢
    have g2 : shlG t (-p) = true := by rw [he]; exact shlG_nat (lt9 h1 (by decide)) (by omega)
    simp only [p_quotient, Option.bind_some, Option.map_some, lget_zero, lget_succ, List.set_cons_zero, List.set_cons_succ, q_m_cst, q_m_loc, q_m_bin, q_m_neg, q_m_cmp, q_m_tup, q_l_nil, q_l_cons, q_s_set, q_s_ret, q_s_ite, q_b_nil, q_b_cons, thn_n, thn_r, t_bool, guard_t, ifB_f, o_fdiv, o_mod, o_shl, c_ge, v_int, decide_false, hp0, g2, e2, g1, fdiv_nat, fmod_nat]

/-! ## bits -/
theorem not_nat (a : Nat) : Builtin.bitNot (a : Int) = -(a : Int) - 1 := by unfold Builtin.bitNot; lia
theorem not_not (a : Int) : Builtin.bitNot (Builtin.bitNot a) = a := by unfold Builtin.bitNot; lia
theorem and_nat (a b : Nat) : Builtin.bitAnd (a : Int) (b : Int) = ((a &&& b : Nat) : Int) := by
  unfold Builtin.bitAnd
  rw [decide_eq_true (show (0 : Int) ≤ a by lia), decide_eq_true (show (0 : Int) ≤ b by lia)]
  rfl
theorem or_nat (a b : Nat) : Builtin.bitOr (a : Int) (b : Int) = ((a ||| b : Nat) : Int) := by
  unfold Builtin.bitOr Builtin.bitAnd
  rw [decide_eq_false (show ¬ (0 : Int) ≤ Builtin.bitNot a by rw [not_nat]; lia), decide_eq_false (show ¬ (0 : Int) ≤ Builtin.bitNot b by rw [not_nat]; lia)]
  dsimp only
  rw [not_not, not_not, not_not]; rfl
theorem xor_nat (a b : Nat) : Builtin.bitXor (a : Int) (b : Int) = ((a ||| b : Nat) : Int) - ((a &&& b : Nat) : Int) := by
  unfold Builtin.bitXor
  rw [or_nat, and_nat]
theorem or_low {e f i : Nat} (h : f < 2 ^ i) : e * 2 ^ i ||| f = e * 2 ^ i + f := by
  rw [Nat.mul_comm, Nat.two_pow_add_eq_or_of_lt h]
theorem r_pack (d e f : Nat) (σ : St) (he : e < 4096) (hf : f < 2 ^ 52) : callM prog F0 (d + 1) 28 [.int 0, .int e, .int f] σ = some (.int ((e * 2 ^ 52 + f : Nat) : Int), σ) := by
  refine run_eq (o := .ret (.int ((e * 2 ^ 52 + f : Nat) : Int)) σ) (Λ := [some (.int 0), some (.int e), some (.int f)]) (f := p_pack) rfl rfl rfl ?_
  have g1 : shlG 0 63 = true := by decide
  have g2 : shlG e 52 = true := shlG_nat (n := 52) (lt9 (a := 12) he (by decide)) (by decide)
  have e1 : (0 : Int) * 2 ^ (63 : Int).toNat = ((0 : Nat) : Int) := by decide
  have e2 : (e : Int) * 2 ^ (52 : Int).toNat = ((e * 2 ^ 52 : Nat) : Int) := mul2_cast e 52
  simp only [p_pack, Option.bind_some, Option.map_some, lget_zero, lget_succ, q_m_cst, q_m_loc, q_m_bin, q_s_ret, q_b_cons, thn_r, guard_t, o_shl, o_or, g1, g2, e1, e2, or_nat, Nat.zero_or, or_low hf]
end Mine
namespace Mine
theorem step_mul (H e f : Nat) : (e + 1) * H + f = e * H + (H + f) := by rw [Nat.add_mul, Nat.one_mul, Nat.add_assoc]
theorem w_assembled1 {d : Nat} {p R : Int} {σ : St} (c3 : ¬ ((2047 : Int) ≤ p + 1 + 1075)) (h : callM prog F0 (d + 1) 28 [.int 0, .int (p + 1 + 1075), .int 0] σ = some (.int R, σ)) :
    callM prog F0 (d + 2) 98 [.int 0, .int 9007199254740992, .int p] σ = some (.int R, σ) := by
  have g1 : shlG 4503599627370496 1 = true := by decide
  have e1 : (4503599627370496 : Int) * 2 ^ (1 : Int).toNat = 9007199254740992 := by decide
  have c2 : ¬ ((4503599627370496 : Int) < 4503599627370496) := by lia
  have c5 : (4503599627370496 : Int) - 4503599627370496 = 0 := by decide
  refine run_eq (o := .ret (.int R) σ) (Λ := [some (.int 0), some (.int 9007199254740992), some (.int p), none]) (f := p_assembled) rfl rfl rfl ?_
  simp only [p_assembled, Option.bind_some, Option.map_some, lget_zero, lget_succ, List.set_cons_zero, List.set_cons_succ, q_m_cst, q_m_loc, q_m_bin, q_m_cmp, q_m_tup, q_m_call, q_l_nil, q_l_cons, q_s_set, q_s_swap, q_s_ret, q_s_ite, q_b_nil, q_b_cons, thn_n, thn_r, t_bool, guard_t, ifB_t, ifB_f, o_add, o_sub, o_shl, c_lt, c_ge, c_eq, v_tup, setN_nil, setN_cons, asg_rev, decide_true, decide_false, List.length_cons, List.length_nil, List.reverse_nil, List.nil_append, List.cons_append, Nat.reduceAdd, g1, e1, c2, c3, c5, h]
theorem w_assembled2 {d : Nat} {p W R : Int} {σ : St} (c1 : ¬ (W = 9007199254740992)) (c2 : ¬ (W < 4503599627370496)) (c3 : ¬ ((2047 : Int) ≤ p + 1075)) (h : callM prog F0 (d + 1) 28 [.int 0, .int (p + 1075), .int (W - 4503599627370496)] σ = some (.int R, σ)) :
    callM prog F0 (d + 2) 98 [.int 0, .int W, .int p] σ = some (.int R, σ) := by
  have g1 : shlG 4503599627370496 1 = true := by decide
  have e1 : (4503599627370496 : Int) * 2 ^ (1 : Int).toNat = 9007199254740992 := by decide
  refine run_eq (o := .ret (.int R) σ) (Λ := [some (.int 0), some (.int W), some (.int p), none]) (f := p_assembled) rfl rfl rfl ?_
  simp only [p_assembled, Option.bind_some, Option.map_some, lget_zero, lget_succ, List.set_cons_zero, List.set_cons_succ, q_m_cst, q_m_loc, q_m_bin, q_m_cmp, q_m_tup, q_m_call, q_l_nil, q_l_cons, q_s_set, q_s_swap, q_s_ret, q_s_ite, q_b_nil, q_b_cons, thn_n, thn_r, t_bool, guard_t, ifB_f, o_add, o_sub, o_shl, c_lt, c_ge, c_eq, v_tup, setN_nil, setN_cons, asg_rev, decide_true, decide_false, List.length_cons, List.length_nil, List.reverse_nil, List.nil_append, List.cons_append, Nat.reduceAdd, g1, e1, c1, c2, c3, h]
theorem r_assembled (d w : Nat) (p : Int) (σ : St) (hw : 2 ^ 52 ≤ w) (hw2 : w ≤ 2 ^ 53) (hp : 0 < p + 1075) (hp2 : p + 1075 < 2046) :
    callM prog F0 (d + 2) 98 [.int 0, .int w, .int p] σ = some (.int (((p + 1074).toNat * 2 ^ 52 + w : Nat) : Int), σ) := by
  obtain ⟨e, he⟩ : ∃ e : Nat, p + 1074 = e := ⟨(p + 1074).toNat, by lia⟩
  have he' : (p + 1074).toNat = e := by lia
  rw [he']
  by_cases h : w = 2 ^ 53
  · have c1 : (w : Int) = 9007199254740992 := by lia
    have c4 : p + 1 + 1075 = ((e + 2 : Nat) : Int) := by lia
    have c6 : e * 2 ^ 52 + w = (e + 2) * 2 ^ 52 + 0 := by
      rw [h, step_mul, step_mul, Nat.add_zero]
    rw [c6, c1]
    refine w_assembled1 (by lia) ?_
    rw [c4]
    exact r_pack d (e + 2) 0 σ (by lia) (by decide)
  · obtain ⟨f, hf⟩ := Nat.exists_eq_add_of_le hw
    have c4 : p + 1075 = ((e + 1 : Nat) : Int) := by lia
    have c5 : (w : Int) - 4503599627370496 = (f : Int) := by lia
    refine w_assembled2 (by lia) (by lia) (by lia) ?_
    rw [c4, c5]
    have := r_pack d (e + 1) f σ (by lia) (by lia)
    rwa [step_mul, ← hf] at this
end Mine
namespace Mine
section
variable {C : Nat → List V → St → Option (V × St)} {F : Nat} {Λ Λ₁ : Lo} {σ σ₁ σ₂ : St} {x : V} {c e : MX} {m A B : MB} {r : Option Out}
theorem s_set {i : Nat} (h1 : evalM C e Λ σ = some (x, σ₁)) (h : execB C F m (Λ.set i (some x)) σ₁ = r) : execB C F (.cons (.set i e) m) Λ σ = r := by
  rw [q_b_cons, q_s_set, h1]; exact h
theorem s_ret (h1 : evalM C e Λ σ = some (x, σ₁)) : execB C F (.cons (.ret e) m) Λ σ = some (.ret x σ₁) := by
  rw [q_b_cons, q_s_ret, h1]; rfl
theorem s_if_t (h1 : evalM C c Λ σ = some (x, σ₁)) (ht : truthV x = some true) (h2 : execB C F A Λ σ₁ = some (.next Λ₁ σ₂)) (h : execB C F m Λ₁ σ₂ = r) : execB C F (.cons (.ite c A B) m) Λ σ = r := by
  rw [q_b_cons, q_s_ite, h1, Option.bind_some, ht, Option.bind_some, ifB_t, h2]; exact h
theorem s_if_f (h1 : evalM C c Λ σ = some (x, σ₁)) (ht : truthV x = some false) (h2 : execB C F B Λ σ₁ = some (.next Λ₁ σ₂)) (h : execB C F m Λ₁ σ₂ = r) : execB C F (.cons (.ite c A B) m) Λ σ = r := by
  rw [q_b_cons, q_s_ite, h1, Option.bind_some, ht, Option.bind_some, ifB_f, h2]; exact h
theorem s_if_rt {v : V} (h1 : evalM C c Λ σ = some (x, σ₁)) (ht : truthV x = some true) (h2 : execB C F A Λ σ₁ = some (.ret v σ₂)) : execB C F (.cons (.ite c A B) m) Λ σ = some (.ret v σ₂) := by
  rw [q_b_cons, q_s_ite, h1, Option.bind_some, ht, Option.bind_some, ifB_t, h2]; rfl
theorem s_nil : execB C F .nil Λ σ = some (.next Λ σ) := rfl
theorem s_tset {ts : List MG} {vs : List V} (h1 : evalM C e Λ σ = some (.tup vs, σ₁)) (h2 : setG ts vs Λ σ₁ = some (Λ₁, σ₂)) (h : execB C F m Λ₁ σ₂ = r) : execB C F (.cons (.tset ts e) m) Λ σ = r := by
  rw [q_b_cons, q_s_tset, h1, Option.bind_some, v_tup, Option.bind_some, h2]; exact h
theorem s_swap {is : List Nat} {vs : List V} (h1 : evalM C e Λ σ = some (.tup vs, σ₁)) (hl : decide (is.length = vs.length) = true) (h2 : setN is.reverse vs.reverse Λ = some Λ₁) (h : execB C F m Λ₁ σ₁ = r) : execB C F (.cons (.swap is e) m) Λ σ = r := by
  rw [q_b_cons, q_s_swap, h1, Option.bind_some, v_tup, Option.bind_some, hl, guard_t, h2]; exact h
theorem s_loop {b : MB} (h1 : whileM (evalM C c) (execB C F b) F Λ σ = some (.next Λ₁ σ₁)) (h : execB C F m Λ₁ σ₁ = r) : execB C F (.cons (.loop c b) m) Λ σ = r := by
  rw [q_b_cons, q_s_loop, h1]; exact h
theorem s_loopr {b : MB} {v : V} (h1 : whileM (evalM C c) (execB C F b) F Λ σ = some (.ret v σ₁)) : execB C F (.cons (.loop c b) m) Λ σ = some (.ret v σ₁) := by
  rw [q_b_cons, q_s_loop, h1]; rfl
theorem s_for1 {i : Nat} {it : MI} {b : MB} {vs : List V} (h0 : iterM C it Λ σ = some (vs, σ₁)) (h1 : Mine.forM (fun v Λ => some (Λ.set i (some v))) (execB C F b) vs Λ σ₁ = some (.next Λ₁ σ₂)) (h : execB C F m Λ₁ σ₂ = r) : execB C F (.cons (.for1 i it b) m) Λ σ = r := by
  rw [q_b_cons, q_s_for1, h0, Option.bind_some, h1]; exact h
theorem s_forN {is : List Nat} {it : MI} {b : MB} {vs : List V} (h0 : iterM C it Λ σ = some (vs, σ₁)) (h1 : Mine.forM (fun v Λ => (asTup v).bind fun xs => setN is xs Λ) (execB C F b) vs Λ σ₁ = some (.next Λ₁ σ₂)) (h : execB C F m Λ₁ σ₂ = r) : execB C F (.cons (.forN is it b) m) Λ σ = r := by
  rw [q_b_cons, q_s_forN, h0, Option.bind_some, h1]; exact h
end
noncomputable def dropB : Nat → MB → MB
  | n + 1, .cons _ l => dropB n l
  | _, l => l
/-! ## round_ratio -/
section
variable {d : Nat} {t b P W R U wt wb W₀ R₀ U₀ P₀ res : Int} {σ : St}
theorem w_round_tail (W' : Int) (h1 : mulG 2 R = true) (h2 : divG W 2 = true) (hW : W' = if U < 2 * R ∨ (2 * R = U ∧ W.fmod 2 = 1) then W + 1 else W)
    (h : callM prog F0 (d + 2) 98 [.int 0, .int W', .int P] σ = some (.int res, σ)) :
    execB (callM prog F0 (d + 2)) F0 (dropB 4 p_round_ratio.body) [some (.int 0), some (.int t), some (.int b), some (.int P), some (.int W), some (.int R), some (.int U)] σ = some (.ret (.int res) σ) := by
  have aU : ¬ (U < U) := Int.lt_irrefl U
  by_cases a : U < 2 * R
  · rw [if_pos (.inl a)] at hW
    subst hW
    refine s_if_t (x := .bool true) (σ₁ := σ) (by simp only [Option.bind_some, Option.map_some, lget_zero, lget_succ, q_m_cst, q_m_loc, q_m_bin, q_m_cmp, q_m_and, q_m_or, guard_t, ifB_t, o_mul, o_mod, c_gt, c_eq, v_bool, decide_true, h1, a]) rfl (s_set (σ₁ := σ) (x := .int (W + 1)) (by simp only [Option.bind_some, Option.map_some, lget_zero, lget_succ, q_m_cst, q_m_loc, q_m_bin, o_add]) s_nil) ?_
    simp only [Option.bind_some, Option.map_some, lget_zero, lget_succ, List.set_cons_zero, List.set_cons_succ, q_m_loc, q_m_call, q_l_nil, q_l_cons, q_s_ret, q_b_cons, thn_r, h]
  · by_cases a2 : 2 * R = U ∧ W.fmod 2 = 1
    · rw [if_pos (.inr a2)] at hW
      subst hW
      refine s_if_t (x := .bool true) (σ₁ := σ) (by simp only [Option.bind_some, Option.map_some, lget_zero, lget_succ, q_m_cst, q_m_loc, q_m_bin, q_m_cmp, q_m_and, q_m_or, guard_t, ifB_t, ifB_f, o_mul, o_mod, c_gt, c_eq, v_bool, decide_true, decide_false, h1, h2, aU, a2.1, a2.2]) rfl (s_set (σ₁ := σ) (x := .int (W + 1)) (by simp only [Option.bind_some, Option.map_some, lget_zero, lget_succ, q_m_cst, q_m_loc, q_m_bin, o_add]) s_nil) ?_
      simp only [Option.bind_some, Option.map_some, lget_zero, lget_succ, List.set_cons_zero, List.set_cons_succ, q_m_loc, q_m_call, q_l_nil, q_l_cons, q_s_ret, q_b_cons, thn_r, h]
    · rw [if_neg (fun q => q.elim a a2)] at hW
      rw [hW] at h
      refine s_if_f (x := .bool false) (σ₁ := σ) ?_ rfl s_nil ?_
      · by_cases a3 : 2 * R = U
        · have a4 : ¬ (W.fmod 2 = 1) := fun q => a2 ⟨a3, q⟩
          simp only [Option.bind_some, Option.map_some, lget_zero, lget_succ, q_m_cst, q_m_loc, q_m_bin, q_m_cmp, q_m_and, q_m_or, guard_t, ifB_t, ifB_f, o_mul, o_mod, c_gt, c_eq, v_bool, decide_true, decide_false, h1, h2, aU, a3, a4]
        · simp only [Option.bind_some, Option.map_some, lget_zero, lget_succ, q_m_cst, q_m_loc, q_m_bin, q_m_cmp, q_m_and, q_m_or, guard_t, ifB_f, o_mul, o_mod, c_gt, c_eq, v_bool, decide_false, h1, h2, a, a3]
      · simp only [Option.bind_some, Option.map_some, lget_zero, lget_succ, q_m_loc, q_m_call, q_l_nil, q_l_cons, q_s_ret, q_b_cons, thn_r, h]
theorem w_round (ht : ¬ t = 0) (h1 : callM prog F0 (d + 2) 21 [.int t] σ = some (.int wt, σ)) (h2 : callM prog F0 (d + 2) 21 [.int b] σ = some (.int wb, σ)) (hP : max (wt - wb - 53) (-1074) = P₀)
    (hq : callM prog F0 (d + 2) 84 [.int t, .int b, .int P₀] σ = some (.tup [.int W₀, .int R₀, .int U₀], σ))
    (h : (¬ (9007199254740992 ≤ W₀) ∧ P = P₀ ∧ W = W₀ ∧ R = R₀ ∧ U = U₀) ∨ (9007199254740992 ≤ W₀ ∧ P = P₀ + 1 ∧ callM prog F0 (d + 2) 84 [.int t, .int b, .int (P₀ + 1)] σ = some (.tup [.int W, .int R, .int U], σ)))
    (hr : execB (callM prog F0 (d + 2)) F0 (dropB 4 p_round_ratio.body) [some (.int 0), some (.int t), some (.int b), some (.int P), some (.int W), some (.int R), some (.int U)] σ = some (.ret (.int res) σ)) :
    callM prog F0 (d + 3) 91 [.int 0, .int t, .int b] σ = some (.int res, σ) := by
  have g1 : shlG 4503599627370496 1 = true := by decide
  have e1 : (4503599627370496 : Int) * 2 ^ (1 : Int).toNat = 9007199254740992 := by decide
  refine run_eq (o := .ret (.int res) σ) (Λ := [some (.int 0), some (.int t), some (.int b), none, none, none, none]) (f := p_round_ratio) rfl rfl rfl ?_
  refine s_if_f (x := .bool false) (σ₁ := σ) (by simp only [Option.bind_some, Option.map_some, lget_zero, lget_succ, q_m_cst, q_m_loc, q_m_cmp, c_eq, decide_false, ht]) rfl s_nil ?_
  refine s_set (x := .int P₀) (σ₁ := σ) (by simp only [Option.bind_some, Option.map_some, lget_zero, lget_succ, q_m_cst, q_m_loc, q_m_bin, q_m_call, q_m_bi, q_l_nil, q_l_cons, o_sub, bi_max, h1, h2, hP]) ?_
  refine s_tset (vs := [.int W₀, .int R₀, .int U₀]) (σ₁ := σ) (Λ₁ := [some (.int 0), some (.int t), some (.int b), some (.int P₀), some (.int W₀), some (.int R₀), some (.int U₀)]) (σ₂ := σ) (by simp only [Option.bind_some, Option.map_some, lget_zero, lget_succ, List.set_cons_zero, List.set_cons_succ, q_m_loc, q_m_call, q_l_nil, q_l_cons, hq]) rfl ?_
  rcases h with ⟨c, rfl, rfl, rfl, rfl⟩ | ⟨c, rfl, hq'⟩
  · exact s_if_f (x := .bool false) (σ₁ := σ) (by simp only [Option.bind_some, Option.map_some, lget_zero, lget_succ, q_m_cst, q_m_loc, q_m_bin, q_m_cmp, guard_t, o_shl, c_ge, decide_false, g1, e1, c]) rfl s_nil hr
  · refine s_if_t (x := .bool true) (σ₁ := σ) (by simp only [Option.bind_some, Option.map_some, lget_zero, lget_succ, q_m_cst, q_m_loc, q_m_bin, q_m_cmp, guard_t, o_shl, c_ge, decide_true, g1, e1, c]) rfl ?_ hr
    refine s_set (x := .int (P₀ + 1)) (σ₁ := σ) (by simp only [Option.bind_some, Option.map_some, lget_zero, lget_succ, q_m_cst, q_m_loc, q_m_bin, o_add]) ?_
    exact s_tset (vs := [.int W, .int R, .int U]) (σ₁ := σ) (σ₂ := σ) (by simp only [Option.bind_some, Option.map_some, lget_zero, lget_succ, List.set_cons_zero, List.set_cons_succ, q_m_loc, q_m_call, q_l_nil, q_l_cons, hq']) rfl s_nil
end
end Mine
namespace Mine
theorem step_scale {t b : Nat} {p : Int} (h : 2 ^ 52 * dnN b p ≤ upN t p) : 2 ^ 53 * dnN b (p - 1) ≤ upN t (p - 1) := by
  have e53 : 2 ^ 53 = 2 ^ 52 * 2 := by decide
  by_cases hp : 1 ≤ p
  · have e1 : upN t (p - 1) = upN t p := by unfold upN; rw [show (-(p - 1)).toNat = (-p).toNat by lia]
    have e2 : dnN b p = 2 * dnN b (p - 1) := by
      unfold dnN
      rw [show p.toNat = (p - 1).toNat + 1 by lia, Nat.pow_succ, Nat.mul_comm _ 2, Nat.mul_left_comm]
    rw [e1, e53, Nat.mul_assoc, ← e2]; exact h
  · have e1 : dnN b (p - 1) = dnN b p := by unfold dnN; rw [show (p - 1).toNat = p.toNat by lia]
    have e2 : upN t (p - 1) = 2 * upN t p := by
      unfold upN
      rw [show (-(p - 1)).toNat = (-p).toNat + 1 by lia, Nat.pow_succ, Nat.mul_comm _ 2, Nat.mul_left_comm]
    rw [e1, e2, e53, Nat.mul_comm (2 ^ 52), Nat.mul_assoc]
    exact Nat.mul_le_mul_left 2 h
theorem rnd_int (U B : Nat) : ((rnd U B : Nat) : Int) = if ((B : Nat) : Int) < 2 * ((U % B : Nat) : Int) ∨ (2 * ((U % B : Nat) : Int) = ((B : Nat) : Int) ∧ ((U / B : Nat) : Int).fmod 2 = 1) then ((U / B : Nat) : Int) + 1 else ((U / B : Nat) : Int) := by
  unfold rnd
  have e := fmod_nat (U / B) 2
  have e' : ((U / B : Nat) : Int).fmod 2 = ((U / B % 2 : Nat) : Int) := e
  rw [e']
  generalize U / B = w
  generalize U % B = r
  by_cases h : B < 2 * r ∨ 2 * r = B ∧ w % 2 = 1
  · rw [if_pos h, if_pos (by lia)]; lia
  · rw [if_neg h, if_neg (by lia)]; lia
theorem r_round (d t b K q : Nat) (σ : St) (ht : 0 < t) (hb : 0 < b) (h1 : t < 2 ^ 2000) (h2 : b < 2 ^ 2000) (hf : Fit t b K q) (hlo : K ≤ q + 1073) (hhi : q < K + 900) :
    callM prog F0 (d + 3) 91 [.int 0, .int t, .int b] σ = some (.int (((q + 1074 - K) * 2 ^ 52 + rnd (t * 2 ^ K) (b * 2 ^ q) : Nat) : Int), σ) := by
  obtain ⟨l1, l2⟩ := fit_log (by lia) (by lia) hf
  obtain ⟨f1, f2⟩ := fit_eq hf
  rw [rnd_eq]
  have t9 := lt9 h1 (by decide)
  have b9 := lt9 h2 (by decide)
  have t4 : t < 2 ^ 4000 := Nat.lt_of_lt_of_le h1 (Nat.pow_le_pow_right (by decide) (by decide))
  have b4 : b < 2 ^ 4000 := Nat.lt_of_lt_of_le h2 (Nat.pow_le_pow_right (by decide) (by decide))
  generalize hp : (q : Int) - K = p at f1 f2 ⊢
  have hw1 := le_rnd (w := 2 ^ 52) (dn_pos hb) f1
  have hw2 := rnd_le (w := 2 ^ 53) (dn_pos hb) f2
  have ha := r_assembled d (rnd (upN t p) (dnN b p)) p σ hw1 hw2 (by lia) (by lia)
  rw [show (p + 1074).toNat = q + 1074 - K by lia] at ha
  have g1 : mulG 2 ((upN t p % dnN b p : Nat) : Int) = true := mulG_nat (a := 2) (lt9 (a := 2) (by decide) (by decide)) (Nat.lt_trans (Nat.mod_lt _ (dn_pos hb)) (lt9 (dn_lt (e := 900) h2 (by lia)) (by decide)))
  have g2 : divG ((upN t p / dnN b p : Nat) : Int) 2 = true := divG_nat (b := 2) (by decide) (lt9 (a := 2) (by decide) (by decide))
  have tail := w_round_tail (t := t) (b := b) (P := p) (W := ((upN t p / dnN b p : Nat) : Int)) (R := ((upN t p % dnN b p : Nat) : Int)) (U := ((dnN b p : Nat) : Int)) _ g1 g2 (rnd_int _ _) ha
  have hwt := r_width (d + 1) t σ (by lia) t9
  have hwb := r_width (d + 1) b σ (by lia) b9
  have key : max (((t.log2 + 1 : Nat) : Int) - ((b.log2 + 1 : Nat) : Int) - 53) (-1074) = p ∨ max (((t.log2 + 1 : Nat) : Int) - ((b.log2 + 1 : Nat) : Int) - 53) (-1074) = p - 1 := by lia
  rcases key with key | key
  · refine w_round (by lia) hwt hwb key (r_quotient (d + 1) t b p σ hb t4 b4 (by lia)) (.inl ⟨?_, rfl, rfl, rfl, rfl⟩) tail
    have : upN t p / dnN b p < 2 ^ 53 := (Nat.div_lt_iff_lt_mul (dn_pos hb)).mpr f2
    lia
  · have hq := r_quotient (d + 1) t b p σ hb t4 b4 (by lia)
    refine w_round (by lia) hwt hwb key (r_quotient (d + 1) t b (p - 1) σ hb t4 b4 (by lia)) (.inr ⟨?_, by lia, ?_⟩) tail
    · have : 2 ^ 53 ≤ upN t (p - 1) / dnN b (p - 1) := (Nat.le_div_iff_mul_le (dn_pos hb)).mpr (step_scale f1)
      omega
    · rw [show p - 1 + 1 = p by lia]; exact hq
end Mine
namespace Mine
section
variable {C : Nat → List V → St → Option (V × St)} {σ : St} {x y : V} {t b S L L₀ U B W R W' res : Int} {s : Bool}
noncomputable def dLo (s : Bool) (t b S L : Int) : Lo := [some (.bool s), some (.int t), some (.int b), some (.int S), some (.int L), none, none, none, none, none]
noncomputable def sgn (s : Bool) : Int := if s then 9223372036854775808 else 0
theorem w_dbl_zero (d : Nat) : callM prog F0 (d + 1) 439 [.bool s, .int 0, .int b] σ = some (.int (sgn s), σ) := by
  have g1 : powG 2 63 = true := by decide
  have e1 : (2 : Int) ^ (63 : Int).toNat = 9223372036854775808 := by decide
  refine run_eq (o := .ret (.int (sgn s)) σ) (Λ := [some (.bool s), some (.int 0), some (.int b), none, none, none, none, none, none, none]) (f := p_law_double) rfl rfl rfl ?_
  refine s_set (x := .int (sgn s)) (σ₁ := σ) (by cases s <;> simp only [Option.bind_some, Option.map_some, lget_zero, q_m_cst, q_m_loc, q_m_bin, q_m_ite, t_bool, guard_t, ifB_t, ifB_f, o_pow, g1, e1] <;> rfl) ?_
  exact s_if_rt (x := .bool true) (σ₁ := σ) (by simp only [Option.bind_some, Option.map_some, lget_zero, lget_succ, List.set_cons_zero, List.set_cons_succ, q_m_cst, q_m_loc, q_m_cmp, c_eq, decide_true]) rfl (s_ret (by simp only [Option.map_some, lget_zero, lget_succ, List.set_cons_zero, List.set_cons_succ, q_m_loc]))
theorem w_dbl (d : Nat) (ht : ¬ t = 0) (hl0 : whileM (evalM (callM prog F0 d) lc_law_double_0) (execB (callM prog F0 d) F0 lb_law_double_0) F0 (dLo s t b (sgn s) 0) σ = some (.next (dLo s t b (sgn s) L₀) σ))
    (hl1 : whileM (evalM (callM prog F0 d) lc_law_double_1) (execB (callM prog F0 d) F0 lb_law_double_1) F0 (dLo s t b (sgn s) L₀) σ = some (.next (dLo s t b (sgn s) L) σ))
    (hm : (0 ≤ 52 - L ∧ powG 2 (52 - L) = true ∧ mulG t (2 ^ (52 - L).toNat) = true ∧ t * 2 ^ (52 - L).toNat = U ∧ b = B) ∨
      (¬ (0 ≤ 52 - L) ∧ powG 2 (0 - (52 - L)) = true ∧ mulG b (2 ^ (0 - (52 - L)).toNat) = true ∧ t = U ∧ b * 2 ^ (0 - (52 - L)).toNat = B))
    (hd : divG U B = true) (hW0 : U.fdiv B = W) (hR0 : U.fmod B = R) (h1 : mulG 2 R = true) (h2 : divG W 2 = true) (hW : W' = if B < 2 * R ∨ (2 * R = B ∧ W.fmod 2 = 1) then W + 1 else W)
    (g3 : mulG (L + 1023) 4503599627370496 = true) (g4 : mulG (L + 1 + 1023) 4503599627370496 = true) (hres : sgn s + (L + 1023) * 4503599627370496 + W' - 4503599627370496 = res) :
    callM prog F0 (d + 1) 439 [.bool s, .int t, .int b] σ = some (.int res, σ) := by
  have g1 : powG 2 63 = true := by decide
  have g2 : powG 2 52 = true := by decide
  have g53 : powG 2 53 = true := by decide
  have e1 : (2 : Int) ^ (63 : Int).toNat = 9223372036854775808 := by decide
  have e2 : (2 : Int) ^ (52 : Int).toNat = 4503599627370496 := by decide
  have e3 : (2 : Int) ^ (53 : Int).toNat = 9007199254740992 := by decide
  refine run_eq (o := .ret (.int res) σ) (Λ := [some (.bool s), some (.int t), some (.int b), none, none, none, none, none, none, none]) (f := p_law_double) rfl rfl rfl ?_
  refine s_set (x := .int (sgn s)) (σ₁ := σ) (by cases s <;> simp only [Option.bind_some, Option.map_some, lget_zero, q_m_cst, q_m_loc, q_m_bin, q_m_ite, t_bool, guard_t, ifB_t, ifB_f, o_pow, g1, e1] <;> rfl) ?_
  refine s_if_f (x := .bool false) (σ₁ := σ) (by simp only [Option.bind_some, Option.map_some, lget_zero, lget_succ, List.set_cons_zero, List.set_cons_succ, q_m_cst, q_m_loc, q_m_cmp, c_eq, decide_false, ht]) rfl s_nil ?_
  refine s_set (x := .int 0) (σ₁ := σ) rfl ?_
  refine s_loop hl0 (s_loop hl1 ?_)
  unfold dLo
  refine s_set (x := .int (52 - L)) (σ₁ := σ) (by simp only [Option.bind_some, Option.map_some, lget_zero, lget_succ, q_m_cst, q_m_loc, q_m_bin, o_sub]) ?_
  refine s_set (x := .int U) (σ₁ := σ) ?_ (s_set (x := .int B) (σ₁ := σ) ?_ ?_)
  · rcases hm with ⟨c, p1, m1, e, _⟩ | ⟨c, p1, m1, e, _⟩
    · simp only [Option.bind_some, Option.map_some, lget_zero, lget_succ, List.set_cons_zero, List.set_cons_succ, q_m_cst, q_m_loc, q_m_bin, q_m_cmp, q_m_ite, t_bool, guard_t, ifB_t, o_mul, o_pow, c_ge, decide_true, c, p1, m1, e]
    · simp only [Option.bind_some, Option.map_some, lget_zero, lget_succ, List.set_cons_zero, List.set_cons_succ, q_m_cst, q_m_loc, q_m_bin, q_m_cmp, q_m_ite, t_bool, ifB_f, o_pow, c_ge, decide_false, c, e]
  · rcases hm with ⟨c, p1, m1, _, e⟩ | ⟨c, p1, m1, _, e⟩
    · simp only [Option.bind_some, Option.map_some, lget_zero, lget_succ, List.set_cons_zero, List.set_cons_succ, q_m_cst, q_m_loc, q_m_bin, q_m_cmp, q_m_ite, t_bool, ifB_t, o_sub, o_pow, c_ge, decide_true, c, e]
    · simp only [Option.bind_some, Option.map_some, lget_zero, lget_succ, List.set_cons_zero, List.set_cons_succ, q_m_cst, q_m_loc, q_m_bin, q_m_cmp, q_m_ite, t_bool, guard_t, ifB_f, o_sub, o_mul, o_pow, c_ge, decide_false, c, p1, m1, e]
  refine s_swap (vs := [.int W, .int R]) (σ₁ := σ) (by simp only [Option.bind_some, Option.map_some, lget_zero, lget_succ, List.set_cons_zero, List.set_cons_succ, q_m_loc, q_m_bin, q_m_tup, q_l_nil, q_l_cons, guard_t, o_fdiv, o_mod, hd, hW0, hR0]) rfl rfl ?_
  have fin : ∀ Λ : Lo, Λ = [some (.bool s), some (.int t), some (.int b), some (.int (sgn s)), some (.int L), some (.int (52 - L)), some (.int U), some (.int B), some (.int W'), some (.int R)] →
      execB (callM prog F0 d) F0 (dropB 10 p_law_double.body) Λ σ = some (.ret (.int res) σ) := fun Λ hΛ => by
    subst hΛ
    by_cases c : W' = 9007199254740992
    · refine s_if_t (x := .bool true) (σ₁ := σ) (by simp only [Option.bind_some, Option.map_some, lget_zero, lget_succ, q_m_cst, q_m_loc, q_m_bin, q_m_cmp, guard_t, o_pow, c_eq, decide_true, g53, e3, c]) rfl (s_swap (vs := [.int 4503599627370496, .int (L + 1)]) (σ₁ := σ) (by simp only [Option.bind_some, Option.map_some, lget_zero, lget_succ, q_m_cst, q_m_loc, q_m_bin, q_m_tup, q_l_nil, q_l_cons, guard_t, o_add, o_pow, g2, e2]) rfl rfl s_nil) ?_
      refine s_ret (σ₁ := σ) ?_
      have : sgn s + (L + 1 + 1023) * 4503599627370496 + 4503599627370496 - 4503599627370496 = res := by lia
      simp only [Option.bind_some, Option.map_some, lget_zero, lget_succ, List.set_cons_zero, List.set_cons_succ, q_m_cst, q_m_loc, q_m_bin, guard_t, o_add, o_sub, o_mul, o_pow, g2, e2, g4, this]
    · refine s_if_f (x := .bool false) (σ₁ := σ) (by simp only [Option.bind_some, Option.map_some, lget_zero, lget_succ, q_m_cst, q_m_loc, q_m_bin, q_m_cmp, guard_t, o_pow, c_eq, decide_false, g53, e3, c]) rfl s_nil ?_
      refine s_ret (σ₁ := σ) ?_
      simp only [Option.bind_some, Option.map_some, lget_zero, lget_succ, q_m_cst, q_m_loc, q_m_bin, guard_t, o_add, o_sub, o_mul, o_pow, g2, e2, g3, hres]
  have aB : ¬ (B < B) := Int.lt_irrefl B
  by_cases a : B < 2 * R
  · rw [if_pos (.inl a)] at hW
    refine s_if_t (x := .bool true) (σ₁ := σ) (by simp only [Option.bind_some, Option.map_some, lget_zero, lget_succ, List.set_cons_zero, List.set_cons_succ, q_m_cst, q_m_loc, q_m_bin, q_m_cmp, q_m_and, q_m_or, guard_t, ifB_t, o_mul, o_mod, c_gt, c_eq, v_bool, decide_true, h1, a]) rfl (s_set (σ₁ := σ) (x := .int (W + 1)) (by simp only [Option.bind_some, Option.map_some, lget_zero, lget_succ, List.set_cons_zero, List.set_cons_succ, q_m_cst, q_m_loc, q_m_bin, o_add]) s_nil) (fin _ ?_)
    rw [hW]; rfl
  · by_cases a2 : 2 * R = B ∧ W.fmod 2 = 1
    · rw [if_pos (.inr a2)] at hW
      refine s_if_t (x := .bool true) (σ₁ := σ) (by simp only [Option.bind_some, Option.map_some, lget_zero, lget_succ, List.set_cons_zero, List.set_cons_succ, q_m_cst, q_m_loc, q_m_bin, q_m_cmp, q_m_and, q_m_or, guard_t, ifB_t, ifB_f, o_mul, o_mod, c_gt, c_eq, v_bool, decide_true, decide_false, h1, h2, aB, a2.1, a2.2]) rfl (s_set (σ₁ := σ) (x := .int (W + 1)) (by simp only [Option.bind_some, Option.map_some, lget_zero, lget_succ, List.set_cons_zero, List.set_cons_succ, q_m_cst, q_m_loc, q_m_bin, o_add]) s_nil) (fin _ ?_)
      rw [hW]; rfl
    · rw [if_neg (fun q => q.elim a a2)] at hW
      refine s_if_f (x := .bool false) (σ₁ := σ) ?_ rfl s_nil (fin _ (by rw [hW]; rfl))
      by_cases a3 : 2 * R = B
      · have a4 : ¬ (W.fmod 2 = 1) := fun q => a2 ⟨a3, q⟩
        simp only [Option.bind_some, Option.map_some, lget_zero, lget_succ, List.set_cons_zero, List.set_cons_succ, q_m_cst, q_m_loc, q_m_bin, q_m_cmp, q_m_and, q_m_or, guard_t, ifB_t, ifB_f, o_mul, o_mod, c_gt, c_eq, v_bool, decide_true, decide_false, h1, h2, aB, a3, a4]
      · simp only [Option.bind_some, Option.map_some, lget_zero, lget_succ, List.set_cons_zero, List.set_cons_succ, q_m_cst, q_m_loc, q_m_bin, q_m_cmp, q_m_and, q_m_or, guard_t, ifB_f, o_mul, o_mod, c_gt, c_eq, v_bool, decide_false, h1, h2, a, a3]
theorem dbl_up (C : Nat → List V → St → Option (V × St)) : ∀ (n i f : Nat) (t b : Nat), n < f → i + n ≤ 2000 → b < 2 ^ 2000 → (n ≠ 0 → b * 2 ^ (i + n) ≤ t) → t < b * 2 ^ (i + n + 1) →
    whileM (evalM C lc_law_double_0) (execB C F0 lb_law_double_0) f (dLo s t b S i) σ = some (.next (dLo s t b S ((i + n : Nat) : Int)) σ)
  | n, i, 0, t, b, hf, _, _, _, _ => absurd hf (Nat.not_lt_zero _)
  | n, i, f + 1, t, b, hf, hn, hb, h1, h2 => by
    have p1 : powG 2 ((i : Int) + 1) = true := powG_nat (a := 2) (n := i + 1) (by decide) (by lia)
    have p2 : (2 : Int) ^ ((i : Int) + 1).toNat = ((2 ^ (i + 1) : Nat) : Int) := by rw [show ((i : Int) + 1).toNat = i + 1 by lia, Int.natCast_pow]; rfl
    have p3 : mulG (b : Int) ((2 ^ (i + 1) : Nat) : Int) = true := mulG_nat (lt9 hb (by decide)) (Nat.pow_lt_pow_right (by decide) (by lia))
    have p4 : (b : Int) * ((2 ^ (i + 1) : Nat) : Int) = ((b * 2 ^ (i + 1) : Nat) : Int) := by rw [Int.natCast_mul]
    cases n with
    | zero =>
      have c : ¬ (((b * 2 ^ (i + 1) : Nat) : Int) ≤ (t : Int)) := by
        have : t < b * 2 ^ (i + 1) := h2
        omega
      refine while_f (x := .bool false) (σ₁ := σ) ?_ rfl
      unfold dLo lc_law_double_0
      simp only [Option.bind_some, Option.map_some, lget_zero, lget_succ, q_m_cst, q_m_loc, q_m_bin, q_m_cmp, guard_t, o_add, o_mul, o_pow, c_ge, decide_false, p1, p2, p3, p4, c]
    | succ n =>
      have c : (((b * 2 ^ (i + 1) : Nat) : Int) ≤ (t : Int)) := by
        have h1' := h1 (by lia)
        have : b * 2 ^ (i + 1) ≤ b * 2 ^ (i + (n + 1)) := Nat.mul_le_mul_left _ (Nat.pow_le_pow_right (by decide) (by lia))
        omega
      have ih := dbl_up C n (i + 1) f t b (by lia) (by lia) hb (fun _ => by rw [show i + 1 + n = i + (n + 1) by lia]; exact h1 (by lia)) (by rw [show i + 1 + n = i + (n + 1) by lia]; exact h2)
      rw [show i + 1 + n = i + (n + 1) by lia] at ih
      refine (while_t (x := .bool true) (σ₁ := σ) ?_ rfl ?_).trans ih
      · unfold dLo lc_law_double_0
        simp only [Option.bind_some, Option.map_some, lget_zero, lget_succ, q_m_cst, q_m_loc, q_m_bin, q_m_cmp, guard_t, o_add, o_mul, o_pow, c_ge, decide_true, p1, p2, p3, p4, c]
      · unfold dLo lb_law_double_0
        simp only [Option.bind_some, Option.map_some, lget_zero, lget_succ, List.set_cons_zero, List.set_cons_succ, q_m_cst, q_m_loc, q_m_bin, q_s_set, q_b_nil, q_b_cons, thn_n, o_add]; rfl
theorem dbl_dn (C : Nat → List V → St → Option (V × St)) : ∀ (n i f : Nat) (t b : Nat), n < f → i + n ≤ 2000 → t < 2 ^ 2000 → b ≤ t * 2 ^ (i + n) → (n ≠ 0 → t * 2 ^ (i + n - 1) < b) →
    whileM (evalM C lc_law_double_1) (execB C F0 lb_law_double_1) f (dLo s t b S (-(i : Int))) σ = some (.next (dLo s t b S (-((i + n : Nat) : Int))) σ)
  | n, i, 0, t, b, hf, _, _, _, _ => absurd hf (Nat.not_lt_zero _)
  | n, i, f + 1, t, b, hf, hn, hb, h1, h2 => by
    have c0 : -(i : Int) ≤ 0 := by lia
    have p0 : (0 : Int) - -(i : Int) = (i : Int) := by lia
    have p1 : powG 2 (i : Int) = true := powG_nat (a := 2) (n := i) (by decide) (by lia)
    have p2 : (2 : Int) ^ (i : Int).toNat = ((2 ^ i : Nat) : Int) := by rw [Int.toNat_natCast, Int.natCast_pow]; rfl
    have p3 : mulG (t : Int) ((2 ^ i : Nat) : Int) = true := mulG_nat (lt9 hb (by decide)) (Nat.pow_lt_pow_right (by decide) (by lia))
    have p4 : (t : Int) * ((2 ^ i : Nat) : Int) = ((t * 2 ^ i : Nat) : Int) := by rw [Int.natCast_mul]
    cases n with
    | zero =>
      have c : ¬ (((t * 2 ^ i : Nat) : Int) < (b : Int)) := by
        have : b ≤ t * 2 ^ i := h1
        omega
      refine while_f (x := .bool false) (σ₁ := σ) ?_ rfl
      unfold dLo lc_law_double_1
      simp only [Option.bind_some, Option.map_some, lget_zero, lget_succ, q_m_cst, q_m_loc, q_m_bin, q_m_cmp, q_m_and, guard_t, ifB_t, o_sub, o_mul, o_pow, c_lt, c_le, v_bool, decide_true, decide_false, c0, p0, p1, p2, p3, p4, c]
    | succ n =>
      have c : (((t * 2 ^ i : Nat) : Int) < (b : Int)) := by
        have h2' := h2 (by lia)
        have : t * 2 ^ i ≤ t * 2 ^ (i + (n + 1) - 1) := Nat.mul_le_mul_left _ (Nat.pow_le_pow_right (by decide) (by lia))
        omega
      have ih := dbl_dn C n (i + 1) f t b (by lia) (by lia) hb (by rw [show i + 1 + n = i + (n + 1) by lia]; exact h1) (fun _ => by rw [show i + 1 + n - 1 = i + (n + 1) - 1 by lia]; exact h2 (by lia))
      rw [show i + 1 + n = i + (n + 1) by lia] at ih
      refine (while_t (x := .bool true) (σ₁ := σ) ?_ rfl ?_).trans ih
      · unfold dLo lc_law_double_1
        simp only [Option.bind_some, Option.map_some, lget_zero, lget_succ, q_m_cst, q_m_loc, q_m_bin, q_m_cmp, q_m_and, guard_t, ifB_t, o_sub, o_mul, o_pow, c_lt, c_le, v_bool, decide_true, c0, p0, p1, p2, p3, p4, c]
      · unfold dLo lb_law_double_1
        have e : -(i : Int) - 1 = -((i + 1 : Nat) : Int) := by lia
        simp only [Option.bind_some, Option.map_some, lget_zero, lget_succ, List.set_cons_zero, List.set_cons_succ, q_m_cst, q_m_loc, q_m_bin, q_s_set, q_b_nil, q_b_cons, thn_n, o_sub, e]
end
end Mine
namespace Mine
theorem sm_abs {a : Int} (h : a.natAbs < 2 ^ 9000) : sm a = true := by
  unfold sm
  rw [decide_eq_true_eq]
  by_cases h0 : a.natAbs = 0
  · rw [h0]; decide
  · exact (Nat.log2_lt h0).mpr h
theorem mulG_abs {a b : Int} (h : a.natAbs < 2 ^ 9000) (h2 : b.natAbs < 2 ^ 9000) : mulG a b = true := by unfold mulG; rw [sm_abs h, sm_abs h2]; rfl
theorem r_dbl (d t b K q : Nat) (s : Bool) (σ : St) (ht : 0 < t) (hb : 0 < b) (h1 : t < 2 ^ 2000) (h2 : b < 2 ^ 2000) (hf : Fit t b K q) (hlo : K ≤ q + 1073) (hhi : q < K + 900) :
    callM prog F0 (d + 1) 439 [.bool s, .int t, .int b] σ = some (.int (sgn s + (((q + 1074 - K) * 2 ^ 52 + rnd (t * 2 ^ K) (b * 2 ^ q) : Nat) : Int)), σ) := by
  obtain ⟨f1, f2⟩ := fit_eq hf
  rw [rnd_eq]
  generalize hp : (q : Int) - K = p at f1 f2 ⊢
  have hU := up_lt (p := p) (e := 1073) h1 (by lia)
  have hB := dn_lt (p := p) (e := 900) h2 (by lia)
  have g2 : divG ((upN t p / dnN b p : Nat) : Int) 2 = true := divG_nat (b := 2) (by decide) (lt9 (a := 2) (by decide) (by decide))
  have g1 : mulG 2 ((upN t p % dnN b p : Nat) : Int) = true := mulG_nat (a := 2) (lt9 (a := 2) (by decide) (by decide)) (Nat.lt_trans (Nat.mod_lt _ (dn_pos hb)) (lt9 hB (by decide)))
  have g3 : ∀ L : Int, L.natAbs ≤ 5000 → mulG L 4503599627370496 = true := fun L hL => mulG_abs (Nat.lt_of_le_of_lt hL (lt9 (a := 13) (by decide) (by decide))) (lt9 (a := 53) (by decide) (by decide))
  have gd : divG (upN t p : Int) (dnN b p : Int) = true := divG_nat (dn_pos hb) (lt9 hB (by decide))
  have e0 : (((q + 1074 - K) * 2 ^ 52 + rnd (upN t p) (dnN b p) : Nat) : Int) = (p + 1074) * 4503599627370496 + ((rnd (upN t p) (dnN b p) : Nat) : Int) := by
    have : ((q + 1074 - K : Nat) : Int) = p + 1074 := by lia
    rw [Int.natCast_add, Int.natCast_mul, this]; rfl
  have two : ∀ n : Nat, n < 9000 → (((2 : Int) ^ n)).natAbs < 2 ^ 9000 := fun n hn => by
    rw [Int.natAbs_pow]; exact Nat.pow_lt_pow_right (by decide) hn
  have hm : (0 ≤ 52 - (p + 52) ∧ powG 2 (52 - (p + 52)) = true ∧ mulG t (2 ^ (52 - (p + 52)).toNat) = true ∧ (t : Int) * 2 ^ (52 - (p + 52)).toNat = ((upN t p : Nat) : Int) ∧ (b : Int) = ((dnN b p : Nat) : Int)) ∨
      (¬ (0 ≤ 52 - (p + 52)) ∧ powG 2 (0 - (52 - (p + 52))) = true ∧ mulG b (2 ^ (0 - (52 - (p + 52))).toNat) = true ∧ (t : Int) = ((upN t p : Nat) : Int) ∧ (b : Int) * 2 ^ (0 - (52 - (p + 52))).toNat = ((dnN b p : Nat) : Int)) := by
    by_cases c : 0 ≤ 52 - (p + 52)
    · refine .inl ⟨c, ?_, mulG_abs (lt9 h1 (by decide)) (two _ (by lia)), ?_, ?_⟩
      · obtain ⟨e, he⟩ := Int.eq_ofNat_of_zero_le c
        rw [he]; exact powG_nat (a := 2) (by decide) (by lia)
      · rw [show 52 - (p + 52) = -p by lia, mul2_cast]; rfl
      · unfold dnN; rw [show p.toNat = 0 by lia, Nat.pow_zero, Nat.mul_one]
    · refine .inr ⟨c, ?_, mulG_abs (lt9 h2 (by decide)) (two _ (by lia)), ?_, ?_⟩
      · obtain ⟨e, he⟩ := Int.eq_ofNat_of_zero_le (show 0 ≤ 0 - (52 - (p + 52)) by lia)
        rw [he]; exact powG_nat (a := 2) (by decide) (by lia)
      · unfold upN; rw [show (-p).toNat = 0 by lia, Nat.pow_zero, Nat.mul_one]
      · rw [show 0 - (52 - (p + 52)) = p by lia, mul2_cast]; rfl
  have key : ∃ L₀, whileM (evalM (callM prog F0 d) lc_law_double_0) (execB (callM prog F0 d) F0 lb_law_double_0) F0 (dLo s t b (sgn s) 0) σ = some (.next (dLo s t b (sgn s) L₀) σ) ∧
      whileM (evalM (callM prog F0 d) lc_law_double_1) (execB (callM prog F0 d) F0 lb_law_double_1) F0 (dLo s t b (sgn s) L₀) σ = some (.next (dLo s t b (sgn s) (p + 52)) σ) := by
    by_cases c : 0 ≤ p + 52
    · obtain ⟨n, hn⟩ := Int.eq_ofNat_of_zero_le c
      have hb1 : b * 2 ^ n ≤ t ∧ t < b * 2 ^ (n + 1) := by
        by_cases c2 : 0 ≤ p
        · have e1 : upN t p = t := by unfold upN; rw [show (-p).toNat = 0 by lia, Nat.pow_zero, Nat.mul_one]
          have e2 : ∀ k, 2 ^ k * dnN b p = b * 2 ^ (p.toNat + k) := fun k => by unfold dnN; rw [Nat.pow_add, Nat.mul_left_comm, Nat.mul_comm (2 ^ k)]
          rw [e1, e2] at f1 f2
          rw [show n = p.toNat + 52 by lia]
          exact ⟨f1, f2⟩
        · have e1 : dnN b p = b := by unfold dnN; rw [show p.toNat = 0 by lia, Nat.pow_zero, Nat.mul_one]
          have e2 : ∀ k, 2 ^ (n + k + (-p).toNat) * b = b * 2 ^ (n + k) * 2 ^ (-p).toNat := fun k => by rw [Nat.mul_comm, Nat.pow_add, Nat.mul_assoc]
          rw [e1] at f1 f2
          rw [show 52 = n + 0 + (-p).toNat by lia, e2] at f1
          rw [show 53 = n + 1 + (-p).toNat by lia, e2] at f2
          exact ⟨Nat.le_of_mul_le_mul_right f1 (Nat.two_pow_pos _), Nat.lt_of_mul_lt_mul_right f2⟩
      have up := dbl_up (s := s) (S := sgn s) (σ := σ) (callM prog F0 d) n 0 F0 t b (by show n < 100000; lia) (by lia) h2 (fun _ => by rw [Nat.zero_add]; exact hb1.1) (by rw [Nat.zero_add]; exact hb1.2)
      rw [Nat.zero_add] at up
      refine ⟨n, up, ?_⟩
      rw [hn]
      by_cases c3 : n = 0
      · subst c3
        have := dbl_dn (s := s) (S := sgn s) (σ := σ) (callM prog F0 d) 0 0 F0 t b (by decide) (by decide) h1 (by simpa using hb1.1) (fun h => absurd rfl h)
        simpa using this
      · have c4 : ¬ ((n : Int) ≤ 0) := by lia
        refine while_f (x := .bool false) (σ₁ := σ) ?_ rfl
        unfold dLo lc_law_double_1
        show evalM _ _ _ _ = _
        simp only [Option.bind_some, Option.map_some, lget_zero, lget_succ, q_m_cst, q_m_loc, q_m_bin, q_m_cmp, q_m_and, ifB_f, o_sub, o_pow, c_le, v_bool, decide_false, c4]
    · obtain ⟨n, hn⟩ := Int.eq_ofNat_of_zero_le (show 0 ≤ -(p + 52) by lia)
      have e1 : dnN b p = b := by unfold dnN; rw [show p.toNat = 0 by lia, Nat.pow_zero, Nat.mul_one]
      rw [e1] at f1 f2
      have hb1 : b ≤ t * 2 ^ n ∧ t * 2 ^ (n - 1) < b := by
        have e2 : upN t p = 2 ^ 52 * (t * 2 ^ n) := by unfold upN; rw [show (-p).toNat = 52 + n by lia, Nat.pow_add, Nat.mul_left_comm]
        have e3 : upN t p = 2 ^ 53 * (t * 2 ^ (n - 1)) := by unfold upN; rw [show (-p).toNat = 53 + (n - 1) by lia, Nat.pow_add, Nat.mul_left_comm]
        rw [e2] at f1
        rw [e3] at f2
        exact ⟨Nat.le_of_mul_le_mul_left f1 (by decide), Nat.lt_of_mul_lt_mul_left f2⟩
      have hlt : t < b * 2 ^ (0 + 0 + 1) := by
        have : t ≤ t * 2 ^ (n - 1) := Nat.le_mul_of_pos_right _ (Nat.two_pow_pos _)
        lia
      have up := dbl_up (s := s) (S := sgn s) (σ := σ) (callM prog F0 d) 0 0 F0 t b (by decide) (by decide) h2 (fun h => absurd rfl h) hlt
      have dn := dbl_dn (s := s) (S := sgn s) (σ := σ) (callM prog F0 d) n 0 F0 t b (by show n < 100000; lia) (by lia) h1 (by rw [Nat.zero_add]; exact hb1.1) (fun _ => by rw [Nat.zero_add]; exact hb1.2)
      rw [Nat.zero_add, show -((n : Nat) : Int) = p + 52 by lia] at dn
      exact ⟨0, up, dn⟩
  obtain ⟨L₀, k0, k1⟩ := key
  refine w_dbl d (by lia) k0 k1 hm gd (fdiv_nat _ _) (fmod_nat _ _) g1 g2 (rnd_int _ _) (g3 _ (by lia)) (g3 _ (by lia)) ?_
  rw [e0]
  generalize ((rnd (upN t p) (dnN b p) : Nat) : Int) = w
  lia
end Mine
namespace Mine
/-! ## texts -/
noncomputable def fig (c : Nat) : Nat := if 48 ≤ c ∧ c ≤ 57 then c - 48 else if 97 ≤ c ∧ c ≤ 122 then c - 87 else if 65 ≤ c ∧ c ≤ 90 then c - 55 else 36
theorem lt1 (a b : Nat) : ([a] : List Nat) < [b] ↔ a < b := by
  rw [List.cons_lt_cons_iff]
  simp
theorem le1 (a b : Nat) : (!decide (([b] : List Nat) < [a])) = decide (a ≤ b) := by
  rw [Bool.eq_iff_iff]
  simp [lt1]
theorem r_fig (d c : Nat) (σ : St) : callM prog F0 (d + 1) 105 [.str [c]] σ = some (.int ((fig c : Nat) : Int), σ) := by
  refine run_eq (o := .ret (.int ((fig c : Nat) : Int)) σ) (Λ := [some (.str [c])]) (f := p_figure_of) rfl rfl rfl ?_
  unfold fig
  have ch : ∀ lo hi : Nat, evalM (callM prog F0 d) (.chain .LtE .LtE (.cst (.str [lo])) (.loc 0) (.cst (.str [hi]))) [some (.str [c])] σ = some (.bool (decide (lo ≤ c ∧ c ≤ hi)), σ) := fun lo hi => by
    by_cases a : lo ≤ c
    · by_cases b : c ≤ hi
      · simp only [Option.bind_some, Option.map_some, lget_zero, q_m_cst, q_m_loc, q_m_chain, ifB_t, c_les, decide_true, le1, a, b, and_self]
      · simp only [Option.bind_some, Option.map_some, lget_zero, q_m_cst, q_m_loc, q_m_chain, ifB_t, c_les, decide_true, decide_false, le1, a, b, and_false]
    · simp only [Option.bind_some, Option.map_some, lget_zero, q_m_cst, q_m_loc, q_m_chain, ifB_f, c_les, decide_false, le1, a, false_and]
  have one : ∀ k : Nat, k ≤ c → (c : Int) - (k : Int) = ((c - k : Nat) : Int) := fun k h => by lia
  by_cases h1 : 48 ≤ c ∧ c ≤ 57
  · rw [if_pos h1, ← one 48 h1.1]
    refine s_if_rt (ch 48 57) (by rw [decide_eq_true h1]; rfl) (s_ret (σ₁ := σ) ?_)
    simp only [Option.bind_some, Option.map_some, lget_zero, q_m_cst, q_m_loc, q_m_bin, q_m_bi, q_l_nil, q_l_cons, o_sub, bi_ord]; rfl
  · rw [if_neg h1]
    refine s_if_f (ch 48 57) (by rw [decide_eq_false h1]; rfl) s_nil ?_
    by_cases h2 : 97 ≤ c ∧ c ≤ 122
    · rw [if_pos h2, ← one 87 (by lia)]
      refine s_if_rt (ch 97 122) (by rw [decide_eq_true h2]; rfl) (s_ret (σ₁ := σ) ?_)
      simp only [Option.bind_some, Option.map_some, lget_zero, q_m_cst, q_m_loc, q_m_bin, q_m_bi, q_l_nil, q_l_cons, o_sub, bi_ord]; rfl
    · rw [if_neg h2]
      refine s_if_f (ch 97 122) (by rw [decide_eq_false h2]; rfl) s_nil ?_
      refine s_ret (σ₁ := σ) ?_
      rw [q_m_ite, ch 65 90]
      by_cases h3 : 65 ≤ c ∧ c ≤ 90
      · rw [if_pos h3, decide_eq_true h3, ← one 55 (by lia)]
        simp only [Option.bind_some, Option.map_some, lget_zero, q_m_cst, q_m_loc, q_m_bin, q_m_bi, q_l_nil, q_l_cons, t_bool, ifB_t, o_sub, bi_ord]; rfl
      · rw [if_neg h3, decide_eq_false h3]
        simp only [Option.bind_some, Option.map_some, lget_zero, q_m_cst, q_m_loc, q_m_bin, q_m_bi, q_l_nil, q_l_cons, t_bool, ifB_f, o_sub, bi_ord]; rfl
theorem drop_at {l r : List Nat} {n c : Nat} (h : l.drop n = c :: r) : l[n]? = some c ∧ l.drop (n + 1) = r ∧ n < l.length := by
  refine ⟨?_, ?_, ?_⟩
  · have : (l.drop n)[0]? = some c := by rw [h]; rfl
    rwa [List.getElem?_drop, Nat.add_zero] at this
  · have : (l.drop n).drop 1 = r := by rw [h]; rfl
    rwa [List.drop_drop] at this
  · have := congrArg List.length h
    simp at this; omega
theorem drop_end {l : List Nat} {n : Nat} (h : l.drop n = []) : l.length ≤ n := List.drop_eq_nil_iff.mp h
theorem item_str {σ : St} {l : List Nat} {n c : Nat} (h : l[n]? = some c) (hl : l.length ≤ 1000) : itemV σ (.str l) (.int (n : Int)) = some (.str [c]) := by
  have hn := (List.getElem?_eq_some_iff.mp h).1
  show (if 0 ≤ ((n : Nat) : Int) ∧ l.length ≤ 1000 then (l[((n : Nat) : Int).toNat]?).map (fun c => V.str [c]) else none) = _
  rw [if_pos ⟨by lia, hl⟩, Int.toNat_natCast, h]; rfl
theorem r_sign (d n : Nat) (l : List Nat) (σ : St) (hl : l.length ≤ 1000) : callM prog F0 (d + 1) 190 [.str l, .int n] σ = some (.str ((l.drop n).take 1), σ) := by
  refine run_eq (o := .ret (.str ((l.drop n).take 1)) σ) (Λ := [some (.str l), some (.int n)]) (f := p_json_sign) rfl rfl rfl ?_
  have e : sliceV (.str l) (some (n : Int)) (some ((n : Int) + 1)) = some (.str ((l.drop n).take 1)) := by
    show guardO (decide ((0 : Int) ≤ n) && decide ((0 : Int) ≤ (n : Int) + 1) && decide (l.length ≤ 1000)) (some (V.str ((l.take ((n : Int) + 1).toNat).drop (n : Int).toNat))) = _
    rw [decide_eq_true (show (0 : Int) ≤ n by lia), decide_eq_true (show (0 : Int) ≤ (n : Int) + 1 by lia), decide_eq_true hl, show ((n : Int) + 1).toNat = n + 1 by lia, Int.toNat_natCast, List.drop_take, show n + 1 - n = 1 by lia]
    rfl
  refine s_ret (σ₁ := σ) ?_
  simp only [Option.bind_some, Option.map_some, lget_zero, lget_succ, q_m_cst, q_m_loc, q_m_bin, q_m_slice, q_o_yes, o_add, v_int, e]
noncomputable def stops (rest : List Nat) (radix : Nat) : Prop := ∀ c r, rest = c :: r → radix ≤ fig c
theorem run_loop (d : Nat) (l rest : List Nat) (radix : Nat) (σ : St) (hl : l.length ≤ 1000) (hs : stops rest radix) (ds : List Nat) : ∀ (n f : Nat), ds.length < f → l.drop n = ds ++ rest → (∀ c ∈ ds, fig c < radix) →
    whileM (evalM (callM prog F0 (d + 1)) lc_run_end_0) (execB (callM prog F0 (d + 1)) F0 lb_run_end_0) f [some (.str l), some (.int n), some (.int radix)] σ = some (.next [some (.str l), some (.int ((n + ds.length : Nat) : Int)), some (.int radix)] σ) := by
  induction ds with
  | nil =>
    intro n f hf hd _
    obtain ⟨f, rfl⟩ : ∃ g, f = g + 1 := ⟨f - 1, by lia⟩
    refine while_f (x := .bool false) (σ₁ := σ) ?_ rfl
    cases rest with
    | nil =>
      have c : ¬ ((n : Int) < (l.length : Int)) := by have := drop_end hd; lia
      simp only [lc_run_end_0, Option.bind_some, Option.map_some, lget_zero, lget_succ, q_m_loc, q_m_cmp, q_m_and, q_m_call, q_m_bi, q_m_item, q_l_nil, q_l_cons, ifB_f, c_lt, v_bool, decide_false, bi_len hl, c]
    | cons c r =>
      obtain ⟨h1, h2, h3⟩ := drop_at (show l.drop n = c :: r from hd)
      have c1 : (n : Int) < (l.length : Int) := by lia
      have c2 : ¬ (((fig c : Nat) : Int) < (radix : Int)) := by have := hs c r rfl; lia
      simp only [lc_run_end_0, Option.bind_some, Option.map_some, lget_zero, lget_succ, q_m_loc, q_m_cmp, q_m_and, q_m_call, q_m_bi, q_m_item, q_l_nil, q_l_cons, ifB_t, c_lt, v_bool, decide_true, decide_false, bi_len hl, c1, item_str h1 hl, r_fig, c2]
  | cons c ds ih =>
    intro n f hf hd ha
    obtain ⟨f, rfl⟩ : ∃ g, f = g + 1 := ⟨f - 1, by lia⟩
    obtain ⟨h1, h2, h3⟩ := drop_at (show l.drop n = c :: (ds ++ rest) from hd)
    have c1 : (n : Int) < (l.length : Int) := by lia
    have c2 : ((fig c : Nat) : Int) < (radix : Int) := by have := ha c (.head _); lia
    have ih := ih (n + 1) f (Nat.lt_of_succ_lt_succ hf) h2 fun x hx => ha x (.tail _ hx)
    rw [show n + 1 + ds.length = n + (c :: ds).length by rw [List.length_cons]; lia] at ih
    refine (while_t (x := .bool true) (σ₁ := σ) ?_ rfl ?_).trans ih
    · simp only [lc_run_end_0, Option.bind_some, Option.map_some, lget_zero, lget_succ, q_m_loc, q_m_cmp, q_m_and, q_m_call, q_m_bi, q_m_item, q_l_nil, q_l_cons, ifB_t, c_lt, v_bool, decide_true, bi_len hl, c1, item_str h1 hl, r_fig, c2]
    · have e : (n : Int) + 1 = ((n + 1 : Nat) : Int) := by lia
      simp only [lb_run_end_0, Option.bind_some, Option.map_some, lget_zero, lget_succ, List.set_cons_zero, List.set_cons_succ, q_m_cst, q_s_aug, q_b_nil, q_b_cons, thn_n, v_int, e]
theorem r_run_end (d n radix : Nat) (l ds rest : List Nat) (σ : St) (hl : l.length ≤ 1000) (hd : l.drop n = ds ++ rest) (ha : ∀ c ∈ ds, fig c < radix) (hs : stops rest radix) :
    callM prog F0 (d + 2) 112 [.str l, .int n, .int radix] σ = some (.int ((n + ds.length : Nat) : Int), σ) := by
  have hlen : ds.length ≤ 1000 := by
    have := congrArg List.length hd
    simp at this; omega
  refine run_eq (o := .ret (.int ((n + ds.length : Nat) : Int)) σ) (Λ := [some (.str l), some (.int n), some (.int radix)]) (f := p_run_end) rfl rfl rfl ?_
  exact s_loop (run_loop d l rest radix σ hl hs ds n F0 (by show _ < 100000; lia) hd ha) (s_ret (by simp only [Option.map_some, lget_zero, lget_succ, q_m_loc]))
end Mine
namespace Mine
noncomputable def val (radix : Nat) (ds : List Nat) (a : Nat) : Nat := ds.foldl (fun a c => a * radix + fig c) a
theorem val_lt {radix : Nat} (hr : radix ≤ 16) : ∀ (ds : List Nat) (a m : Nat), a < 2 ^ (4 * m) → (∀ c ∈ ds, fig c < radix) → val radix ds a < 2 ^ (4 * (m + ds.length))
  | [], a, m, h, _ => h
  | c :: ds, a, m, h, hc => by
    have h1 := hc c (.head _)
    have h2 : a * radix + fig c < 2 ^ (4 * (m + 1)) := by
      have e : 2 ^ (4 * (m + 1)) = 2 ^ (4 * m) * 16 := by rw [Nat.mul_add, Nat.pow_add]
      have : a * radix ≤ a * 16 := Nat.mul_le_mul_left _ hr
      lia
    have := val_lt hr ds (a * radix + fig c) (m + 1) h2 fun x hx => hc x (.tail _ hx)
    rw [show m + (c :: ds).length = m + 1 + ds.length by rw [List.length_cons]; lia]
    exact this
theorem worth_for (d radix : Nat) (l rest : List Nat) (σ : St) (hl : l.length ≤ 1000) (hr : radix ≤ 16) (B E : V) : ∀ (ds : List Nat) (n a m : Nat) (u : Option V), l.drop n = ds ++ rest → (∀ c ∈ ds, fig c < radix) → a < 2 ^ (4 * m) → m + ds.length ≤ 1000 →
    ∃ u', Mine.forM (fun v Λ => some (Λ.set 5 (some v))) (execB (callM prog F0 (d + 1)) F0 lb_worth_0) ((List.range ds.length).map fun (k : Nat) => V.int ((n : Int) + k)) [some (.str l), some B, some E, some (.int radix), some (.int a), u] σ =
      some (.next [some (.str l), some B, some E, some (.int radix), some (.int ((val radix ds a : Nat) : Int)), u'] σ) := by
  intro ds
  induction ds with
  | nil => intro n a m u _ _ _ _; exact ⟨u, rfl⟩
  | cons c ds ih =>
    intro n a m u hd ha hm hle
    obtain ⟨h1, h2, h3⟩ := drop_at (show l.drop n = c :: (ds ++ rest) from hd)
    have hc := ha c (.head _)
    rw [List.length_cons] at hle ⊢
    have hm' : a * radix + fig c < 2 ^ (4 * (m + 1)) := val_lt hr [c] a m hm (fun x hx => by rw [List.mem_singleton.mp hx]; exact hc)
    obtain ⟨u', hu⟩ := ih (n + 1) (a * radix + fig c) (m + 1) (some (.int n)) h2 (fun x hx => ha x (.tail _ hx)) hm' (by lia)
    refine ⟨u', ?_⟩
    rw [List.range_succ_eq_map, List.map_cons, List.map_map, forM_cons, Option.bind_some]
    have g : mulG (a : Int) (radix : Int) = true := mulG_nat (lt9 hm (by lia)) (lt9 (a := 5) (Nat.lt_of_le_of_lt hr (by decide)) (by decide))
    have e0 : (n : Int) + ((0 : Nat) : Int) = (n : Int) := by lia
    have e1 : (a : Int) * (radix : Int) + ((fig c : Nat) : Int) = ((a * radix + fig c : Nat) : Int) := by rw [Int.natCast_add, Int.natCast_mul]
    have hb : execB (callM prog F0 (d + 1)) F0 lb_worth_0 ([some (.str l), some B, some E, some (.int radix), some (.int a), u].set 5 (some (.int ((n : Int) + ((0 : Nat) : Int))))) σ = some (.next [some (.str l), some B, some E, some (.int radix), some (.int ((a * radix + fig c : Nat) : Int)), some (.int n)] σ) := by
      rw [e0]
      simp only [lb_worth_0, Option.bind_some, Option.map_some, lget_zero, lget_succ, List.set_cons_zero, List.set_cons_succ, q_m_loc, q_m_bin, q_m_call, q_m_item, q_l_nil, q_l_cons, q_s_set, q_b_nil, q_b_cons, thn_n, guard_t, o_add, o_mul, item_str h1 hl, r_fig, g, e1]
    rw [hb, Option.bind_some, thn_n]
    refine (congrArg (fun L => Mine.forM (fun v Λ => some (Λ.set 5 (some v))) (execB (callM prog F0 (d + 1)) F0 lb_worth_0) L [some (.str l), some B, some E, some (.int radix), some (.int ((a * radix + fig c : Nat) : Int)), some (.int n)] σ) ?_).trans hu
    refine List.map_congr_left fun k _ => congrArg V.int ?_
    show (n : Int) + ((k + 1 : Nat) : Int) = ((n + 1 : Nat) : Int) + k
    lia
theorem r_worth (d n e radix : Nat) (l ds rest : List Nat) (σ : St) (hl : l.length ≤ 1000) (hr : radix ≤ 16) (hd : l.drop n = ds ++ rest) (ha : ∀ c ∈ ds, fig c < radix) (he : e = n + ds.length) (hn : n ≤ 1000) :
    callM prog F0 (d + 2) 119 [.str l, .int n, .int e, .int radix] σ = some (.int ((val radix ds 0 : Nat) : Int), σ) := by
  have hlen : ds.length ≤ 1000 := by
    have := congrArg List.length hd
    simp at this; lia
  obtain ⟨u', hu⟩ := worth_for d radix l rest σ hl hr (.int n) (.int e) ds n 0 0 none hd ha (by decide) (by lia)
  refine run_eq (o := .ret (.int ((val radix ds 0 : Nat) : Int)) σ) (Λ := [some (.str l), some (.int n), some (.int e), some (.int radix), none, none]) (f := p_worth) rfl rfl rfl ?_
  refine s_set (x := .int 0) (σ₁ := σ) rfl ?_
  have s1 : small62 (n : Int) = true := by unfold small62; rw [Int.natAbs_natCast]; exact decide_eq_true (by lia)
  have s2 : small62 (e : Int) = true := by unfold small62; rw [Int.natAbs_natCast]; exact decide_eq_true (by lia)
  refine s_for1 (σ₁ := σ) (vs := (List.range ds.length).map fun (k : Nat) => V.int ((n : Int) + k)) ?_ hu (s_ret (σ₁ := σ) (by simp only [Option.map_some, lget_zero, lget_succ, q_m_loc]))
  have e2 : ((e : Int) - (n : Int)).toNat = ds.length := by lia
  simp only [Option.bind_some, Option.map_some, lget_zero, lget_succ, List.set_cons_zero, List.set_cons_succ, q_m_loc, it_range, guard_t, v_int, s1, s2, Bool.and_self, e2]
/-! ## the parts of a number -/
theorem r_turned (d : Nat) (b : Nat) (m : Bool) (σ : St) (hb : b < 2 ^ 63) : callM prog F0 (d + 1) 140 [.int b, .bool m] σ = some (.int (sgn m + b), σ) := by
  refine run_eq (o := .ret (.int (sgn m + b)) σ) (Λ := [some (.int b), some (.bool m)]) (f := p_turned) rfl rfl rfl ?_
  refine s_ret (σ₁ := σ) ?_
  cases m with
  | false =>
    have : (sgn false + (b : Int)) = (b : Int) := by show (0 : Int) + b = b; lia
    rw [this]
    simp only [Option.bind_some, Option.map_some, lget_zero, lget_succ, q_m_cst, q_m_loc, q_m_bin, q_m_ite, t_bool, ifB_f, o_xor]
  | true =>
    have e : Builtin.bitXor (b : Int) 9223372036854775808 = sgn true + (b : Int) := by
      have h1 := xor_nat b (2 ^ 63)
      have h2 : 2 ^ 63 * 1 ||| b = 2 ^ 63 * 1 + b := (Nat.two_pow_add_eq_or_of_lt hb 1).symm
      have h3 : b &&& 2 ^ 63 = 0 := by
        apply Nat.eq_of_testBit_eq
        intro i
        rw [Nat.testBit_and, Nat.testBit_two_pow, Nat.zero_testBit]
        by_cases h : 63 = i
        · subst h; rw [Nat.testBit_lt_two_pow hb]; rfl
        · rw [decide_eq_false h, Bool.and_false]
      rw [Nat.mul_one, Nat.or_comm] at h2
      rw [h2, h3] at h1
      refine h1.trans ?_
      show _ = (9223372036854775808 : Int) + b
      lia
    simp only [Option.bind_some, Option.map_some, lget_zero, lget_succ, q_m_cst, q_m_loc, q_m_bin, q_m_ite, t_bool, ifB_t, o_xor, e]
theorem r_sign_at (d n : Nat) (l sg rest : List Nat) (σ : St) (hl : l.length ≤ 1000) (hd : l.drop n = sg ++ rest) (hs : sg = [43] ∨ sg = [45] ∨ (sg = [] ∧ ∀ c r, rest = c :: r → c ≠ 43 ∧ c ≠ 45)) :
    callM prog F0 (d + 1) 133 [.str l, .int n] σ = some (.tup [.bool (decide (sg = [45])), .int ((n + sg.length : Nat) : Int)], σ) := by
  refine run_eq (o := .ret (.tup [.bool (decide (sg = [45])), .int ((n + sg.length : Nat) : Int)]) σ) (Λ := [some (.str l), some (.int n)]) (f := p_sign_at) rfl rfl rfl ?_
  have e1 : (n : Int) + 1 = ((n + 1 : Nat) : Int) := by lia
  have yes : ∀ c : Nat, (c = 43 ∨ c = 45) → l.drop n = c :: rest → execB (callM prog F0 d) F0 p_sign_at.body [some (.str l), some (.int n)] σ = some (.ret (.tup [.bool (decide ([c] = [45])), .int ((n + 1 : Nat) : Int)]) σ) := fun c hc hd => by
    obtain ⟨h1, h2, h3⟩ := drop_at hd
    have c1 : (n : Int) < (l.length : Int) := by lia
    have c2 : c ∈ [43, 45] := by rcases hc with rfl | rfl <;> decide
    refine s_if_rt (x := .bool true) (σ₁ := σ) (by simp only [Option.bind_some, Option.map_some, lget_zero, lget_succ, q_m_cst, q_m_loc, q_m_cmp, q_m_and, q_m_bi, q_m_item, q_l_nil, q_l_cons, ifB_t, c_lt, c_in1, v_bool, decide_true, bi_len hl, item_str h1 hl, c1, c2]) rfl (s_ret (σ₁ := σ) ?_)
    simp only [Option.bind_some, Option.map_some, lget_zero, lget_succ, q_m_cst, q_m_loc, q_m_bin, q_m_cmp, q_m_tup, q_m_item, q_l_nil, q_l_cons, o_add, c_eqs, item_str h1 hl, e1]
  rcases hs with rfl | rfl | ⟨rfl, hs⟩
  · exact yes 43 (.inl rfl) hd
  · exact yes 45 (.inr rfl) hd
  · refine s_if_f (x := .bool false) (σ₁ := σ) ?_ rfl s_nil (s_ret (σ₁ := σ) ?_)
    · cases rest with
      | nil =>
        have c : ¬ ((n : Int) < (l.length : Int)) := by have := drop_end hd; lia
        simp only [Option.bind_some, Option.map_some, lget_zero, lget_succ, q_m_cst, q_m_loc, q_m_cmp, q_m_and, q_m_bi, q_m_item, q_l_nil, q_l_cons, ifB_f, c_lt, v_bool, decide_false, bi_len hl, c]
      | cons c r =>
        obtain ⟨h1, h2, h3⟩ := drop_at (show l.drop n = c :: r from hd)
        have c1 : (n : Int) < (l.length : Int) := by lia
        obtain ⟨q1, q2⟩ := hs c r rfl
        have c2 : ¬ (c ∈ [43, 45]) := by simp [q1, q2]
        simp only [Option.bind_some, Option.map_some, lget_zero, lget_succ, q_m_cst, q_m_loc, q_m_cmp, q_m_and, q_m_bi, q_m_item, q_l_nil, q_l_cons, ifB_t, c_lt, c_in1, v_bool, decide_true, decide_false, bi_len hl, item_str h1 hl, c1, c2]
    · have e : decide (([] : List Nat) = [45]) = false := by decide
      simp only [Option.bind_some, Option.map_some, lget_zero, lget_succ, q_m_cst, q_m_loc, q_m_tup, q_l_nil, q_l_cons, List.length_nil, e, Nat.add_zero]
end Mine
namespace Mine
theorem drop_tw (p : Nat → Bool) : ∀ l : List Nat, l.drop (l.takeWhile p).length = l.dropWhile p
  | [] => rfl
  | a :: l => by
    rw [List.takeWhile_cons, List.dropWhile_cons]
    split
    · exact drop_tw p l
    · rfl
theorem lstrip_eq (l : List Nat) : (Txt.lstripChars ⟨l.toArray⟩ ⟨[48].toArray⟩).cps.toList = l.dropWhile (· == 48) := by
  have hp : ((⟨[48].toArray⟩ : Str).cps.contains) = fun c : Nat => c == 48 := by funext c; rw [Bool.eq_iff_iff]; simp
  unfold Txt.lstripChars
  rw [PyProof.Rows.stripBy_eq, hp]
  show ((l.toArray).extract _ _).toList = _
  rw [Array.toList_extract, List.extract_eq_take_drop]
  show ((l.drop (l.takeWhile (fun c : Nat => c == 48)).length).take (l.toArray.size - _)) = _
  rw [List.take_of_length_le (by rw [List.length_drop]; exact Nat.le_refl _), drop_tw]
theorem val_zero : ∀ l : List Nat, val 10 (l.dropWhile (· == 48)) 0 = val 10 l 0
  | [] => rfl
  | a :: l => by
    rw [List.dropWhile_cons]
    split
    · rename_i h
      have : a = 48 := by simpa using h
      subst this
      exact val_zero l
    · rfl
theorem dw_mem {p : Nat → Bool} {l : List Nat} {x : Nat} (h : x ∈ l.dropWhile p) : x ∈ l := (List.dropWhile_suffix p).subset h
theorem dw_len (p : Nat → Bool) (l : List Nat) : (l.dropWhile p).length ≤ l.length := (List.dropWhile_suffix p).length_le
theorem dig_fig {c : Nat} (h : 48 ≤ c ∧ c ≤ 57) : fig c < 10 := by unfold fig; rw [if_pos h]; omega
noncomputable def Digs (l : List Nat) : Prop := ∀ c ∈ l, 48 ≤ c ∧ c ≤ 57
theorem w_from_dec {d : Nat} {fs told : List Nat} {e P N res : Int} {σ : St} (hl : fs.length ≤ 1000) (ht : fs.dropWhile (· == 48) = told) (hne : told ≠ []) (hP : (told.length : Int) + e = P) (p1 : ¬ (P < 0 - 400)) (p2 : ¬ (400 < P))
    (hw : callM prog F0 (d + 3) 119 [.str told, .int 0, .int told.length, .int 10] σ = some (.int N, σ))
    (hr : (0 ≤ e ∧ powG 10 e = true ∧ mulG N (10 ^ e.toNat) = true ∧ callM prog F0 (d + 3) 91 [.int 0, .int (N * 10 ^ e.toNat), .int 1] σ = some (.int res, σ)) ∨
      (¬ 0 ≤ e ∧ powG 10 (0 - e) = true ∧ callM prog F0 (d + 3) 91 [.int 0, .int N, .int (10 ^ (0 - e).toNat)] σ = some (.int res, σ))) :
    callM prog F0 (d + 4) 126 [.str fs, .int e] σ = some (.int res, σ) := by
  refine run_eq (o := .ret (.int res) σ) (Λ := [some (.str fs), some (.int e), none, none, none]) (f := p_from_decimal) rfl rfl rfl ?_
  have ht' : told.length ≤ 1000 := by have := dw_len (· == 48) fs; rw [ht] at this; lia
  refine s_set (x := .str told) (σ₁ := σ) (by simp only [Option.bind_some, Option.map_some, lget_zero, q_m_cst, q_m_loc, q_m_lstrip, guard_t, v_str, decide_eq_true hl, lstrip_eq, ht]) ?_
  refine s_set (x := .int P) (σ₁ := σ) (by simp only [Option.bind_some, Option.map_some, lget_zero, lget_succ, List.set_cons_zero, List.set_cons_succ, q_m_loc, q_m_bin, q_m_bi, q_l_nil, q_l_cons, o_add, bi_len ht', hP]) ?_
  refine s_if_f (x := .bool false) (σ₁ := σ) (by simp only [Option.bind_some, Option.map_some, lget_zero, lget_succ, List.set_cons_zero, List.set_cons_succ, q_m_cst, q_m_loc, q_m_bin, q_m_cmp, q_m_or, ifB_f, o_sub, c_lt, c_eqs, v_bool, decide_false, hne, p1]) rfl s_nil ?_
  refine s_if_f (x := .bool false) (σ₁ := σ) (by simp only [Option.bind_some, Option.map_some, lget_zero, lget_succ, List.set_cons_zero, List.set_cons_succ, q_m_cst, q_m_loc, q_m_cmp, c_gt, decide_false, p2]) rfl s_nil ?_
  refine s_set (x := .int N) (σ₁ := σ) (by simp only [Option.bind_some, Option.map_some, lget_zero, lget_succ, List.set_cons_zero, List.set_cons_succ, q_m_cst, q_m_loc, q_m_call, q_m_bi, q_l_nil, q_l_cons, bi_len ht', hw]) ?_
  rcases hr with ⟨c, g1, g2, h⟩ | ⟨c, g1, h⟩
  · exact s_if_rt (x := .bool true) (σ₁ := σ) (by simp only [Option.bind_some, Option.map_some, lget_zero, lget_succ, List.set_cons_zero, List.set_cons_succ, q_m_cst, q_m_loc, q_m_cmp, c_ge, decide_true, c]) rfl (s_ret (σ₁ := σ) (by simp only [Option.bind_some, Option.map_some, lget_zero, lget_succ, List.set_cons_zero, List.set_cons_succ, q_m_cst, q_m_loc, q_m_bin, q_m_call, q_l_nil, q_l_cons, guard_t, o_mul, o_pow, g1, g2, h]))
  · exact s_if_f (x := .bool false) (σ₁ := σ) (by simp only [Option.bind_some, Option.map_some, lget_zero, lget_succ, List.set_cons_zero, List.set_cons_succ, q_m_cst, q_m_loc, q_m_cmp, c_ge, decide_false, c]) rfl s_nil (s_ret (σ₁ := σ) (by simp only [Option.bind_some, Option.map_some, lget_zero, lget_succ, List.set_cons_zero, List.set_cons_succ, q_m_cst, q_m_loc, q_m_bin, q_m_call, q_l_nil, q_l_cons, guard_t, o_sub, o_pow, g1, h]))
theorem pow10 (n : Nat) : ((10 : Int) ^ n) = ((10 ^ n : Nat) : Int) := by rw [Int.natCast_pow]; rfl
theorem r_from_dec (d K q : Nat) (fs : List Nat) (e : Int) (σ : St) (hl : fs.length ≤ 1000) (hd : Digs fs) (hN : 0 < val 10 fs 0) (p1 : -300 ≤ e) (p2 : (fs.length : Int) + e ≤ 400) (h1 : val 10 fs 0 * 10 ^ e.toNat < 2 ^ 2000)
    (hf : Fit (val 10 fs 0 * 10 ^ e.toNat) (10 ^ (-e).toNat) K q) (hlo : K ≤ q + 1073) (hhi : q < K + 900) :
    callM prog F0 (d + 4) 126 [.str fs, .int e] σ = some (.int (((q + 1074 - K) * 2 ^ 52 + rnd (val 10 fs 0 * 10 ^ e.toNat * 2 ^ K) (10 ^ (-e).toNat * 2 ^ q) : Nat) : Int), σ) := by
  have htl := dw_len (· == 48) fs
  have hne : fs.dropWhile (· == 48) ≠ [] := fun h => by
    have := val_zero fs
    rw [h] at this
    rw [← this] at hN
    exact absurd hN (Nat.lt_irrefl _)
  have hw := r_worth (d + 1) 0 (fs.dropWhile (· == 48)).length 10 (fs.dropWhile (· == 48)) (fs.dropWhile (· == 48)) [] σ (Nat.le_trans htl hl) (by decide) (by simp) (fun c hc => dig_fig (hd c (dw_mem hc))) (by simp) (by decide)
  rw [val_zero] at hw
  have two : 10 ^ (-e).toNat < 2 ^ 2000 := Nat.lt_of_le_of_lt (Nat.pow_le_pow_left (show (10 : Nat) ≤ 2 ^ 4 by decide) (-e).toNat) (by rw [← Nat.pow_mul]; exact Nat.pow_lt_pow_right (by decide) (by lia))
  have hr := r_round d (val 10 fs 0 * 10 ^ e.toNat) (10 ^ (-e).toNat) K q σ (Nat.mul_pos hN (Nat.pow_pos (by decide))) (Nat.pow_pos (by decide)) h1 two hf hlo hhi
  generalize ((q + 1074 - K) * 2 ^ 52 + rnd (val 10 fs 0 * 10 ^ e.toNat * 2 ^ K) (10 ^ (-e).toNat * 2 ^ q) : Nat) = R at hr ⊢
  have hp0 : (fs.dropWhile (· == 48)).length ≠ 0 := fun h => hne (List.length_eq_zero_iff.mp h)
  refine w_from_dec hl rfl hne rfl (by lia) (by lia) hw ?_
  by_cases c : 0 ≤ e
  · refine .inl ⟨c, ?_, ?_, ?_⟩
    · obtain ⟨n, hn⟩ := Int.eq_ofNat_of_zero_le c
      rw [hn]; exact powG_nat (a := 10) (by decide) (by lia)
    · rw [pow10]
      have a1 : val 10 fs 0 < 2 ^ 2000 := Nat.lt_of_le_of_lt (Nat.le_mul_of_pos_right _ (Nat.pow_pos (by decide))) h1
      have a2 : 10 ^ e.toNat < 2 ^ 2000 := Nat.lt_of_le_of_lt (Nat.le_mul_of_pos_left _ hN) h1
      exact mulG_nat (lt9 a1 (by decide)) (lt9 a2 (by decide))
    · rw [show (-e).toNat = 0 by lia] at hr
      rw [pow10, ← Int.natCast_mul]
      exact hr
  · refine .inr ⟨c, ?_, ?_⟩
    · obtain ⟨n, hn⟩ := Int.eq_ofNat_of_zero_le (show 0 ≤ 0 - e by lia)
      rw [hn]; exact powG_nat (a := 10) (by decide) (by lia)
    · rw [show e.toNat = 0 by lia, Nat.pow_zero, Nat.mul_one] at hr
      rw [show (0 - e).toNat = (-e).toNat by lia, pow10]
      exact hr
theorem r_from_zero (d : Nat) (fs : List Nat) (e : Int) (σ : St) (hl : fs.length ≤ 1000) (hz : fs.dropWhile (· == 48) = []) : callM prog F0 (d + 1) 126 [.str fs, .int e] σ = some (.int 0, σ) := by
  refine run_eq (o := .ret (.int 0) σ) (Λ := [some (.str fs), some (.int e), none, none, none]) (f := p_from_decimal) rfl rfl rfl ?_
  refine s_set (x := .str []) (σ₁ := σ) (by simp only [Option.bind_some, Option.map_some, lget_zero, q_m_cst, q_m_loc, q_m_lstrip, guard_t, v_str, decide_eq_true hl, lstrip_eq, hz]) ?_
  have h0 : ([] : List Nat).length ≤ 1000 := by decide
  refine s_set (x := .int (((([] : List Nat).length : Nat) : Int) + e)) (σ₁ := σ) (by simp only [Option.bind_some, Option.map_some, lget_zero, lget_succ, List.set_cons_zero, List.set_cons_succ, q_m_loc, q_m_bin, q_m_bi, q_l_nil, q_l_cons, o_add, List.length_nil, bi_len h0]) ?_
  exact s_if_rt (x := .bool true) (σ₁ := σ) (by simp only [Option.bind_some, Option.map_some, lget_zero, lget_succ, List.set_cons_zero, List.set_cons_succ, q_m_cst, q_m_loc, q_m_bin, q_m_cmp, q_m_or, ifB_t, o_sub, c_lt, c_eqs, v_bool, decide_true, List.length_nil]) rfl (s_ret rfl)
end Mine
namespace Mine
/-! ## the shortest figures, in plain numbers -/
theorem rnd_near {T W M : Nat} (hW : 0 < W) (h1 : 2 * T ≤ 2 * (M * W) + W) (h2 : 2 * (M * W) ≤ 2 * T + W) (h3 : M % 2 = 1 → 2 * T < 2 * (M * W) + W ∧ 2 * (M * W) < 2 * T + W) : rnd T W = M := by
  unfold rnd
  by_cases c : M * W ≤ T
  · have e : T / W = M := Nat.div_eq_of_lt_le c (by rw [Nat.add_mul, Nat.one_mul]; lia)
    have e2 : T % W = T - M * W := by have := Nat.div_add_mod T W; rw [e, Nat.mul_comm] at this; omega
    rw [e, e2, if_neg, Nat.add_zero]
    rintro (q | ⟨q, q2⟩)
    · omega
    · have := (h3 q2).1; omega
  · obtain ⟨m, rfl⟩ : ∃ m, M = m + 1 := ⟨M - 1, by
      have : M ≠ 0 := fun h => c (by rw [h]; lia)
      lia⟩
    rw [Nat.add_mul, Nat.one_mul] at h1 h2 h3 c
    have e : T / W = m := Nat.div_eq_of_lt_le (by lia) (by rw [Nat.add_mul, Nat.one_mul]; omega)
    have e2 : T % W = T - m * W := by have := Nat.div_add_mod T W; rw [e, Nat.mul_comm] at this; omega
    rw [e, e2, if_pos]
    by_cases q : W < 2 * (T - m * W)
    · exact .inl q
    · refine .inr ⟨by lia, ?_⟩
      by_cases r : m % 2 = 1
      · exact r
      · have := (h3 (by lia)).2
        lia
theorem near_bits {t b M pp pm : Nat} (hb : 0 < b) (hM : 2 ^ 52 ≤ M) (hM2 : M < 2 ^ 53) (hp : pm < pp + 1074)
    (u1 : 2 * (t * 2 ^ pm) ≤ 2 * (M * (b * 2 ^ pp)) + b * 2 ^ pp) (u2 : M % 2 = 1 → 2 * (t * 2 ^ pm) < 2 * (M * (b * 2 ^ pp)) + b * 2 ^ pp)
    (d1 : 2 * (M * (b * 2 ^ pp)) ≤ 2 * (t * 2 ^ pm) + b * 2 ^ pp) (d2 : M % 2 = 1 → 2 * (M * (b * 2 ^ pp)) < 2 * (t * 2 ^ pm) + b * 2 ^ pp)
    (d3 : M = 2 ^ 52 → 4 * (M * (b * 2 ^ pp)) ≤ 4 * (t * 2 ^ pm) + b * 2 ^ pp) :
    ∃ K q, Fit t b K q ∧ pm ≤ K ∧ K ≤ pm + 1 ∧ q = pp ∧ (q + 1074 - K) * 2 ^ 52 + rnd (t * 2 ^ K) (b * 2 ^ q) = (pp + 1074 - pm) * 2 ^ 52 + M := by
  have hW : 0 < b * 2 ^ pp := Nat.mul_pos hb (Nat.two_pow_pos _)
  have m1 : 2 ^ 52 * (b * 2 ^ pp) ≤ M * (b * 2 ^ pp) := Nat.mul_le_mul_right _ hM
  have m2 : M * (b * 2 ^ pp) + b * 2 ^ pp ≤ 2 ^ 53 * (b * 2 ^ pp) := by
    have : (M + 1) * (b * 2 ^ pp) ≤ 2 ^ 53 * (b * 2 ^ pp) := Nat.mul_le_mul_right _ hM2
    rwa [Nat.add_mul, Nat.one_mul] at this
  by_cases c : M * (b * 2 ^ pp) ≤ t * 2 ^ pm
  · refine ⟨pm, pp, ⟨Nat.le_trans m1 c, ?_⟩, Nat.le_refl _, Nat.le_succ _, rfl, by rw [rnd_near hW u1 d1 fun h => ⟨u2 h, d2 h⟩]⟩
    generalize 2 ^ 53 * (b * 2 ^ pp) = Z at *
    generalize M * (b * 2 ^ pp) = X at *
    lia
  · by_cases e : M = 2 ^ 52
    · have d4 := d3 e
      have hk : t * 2 ^ (pm + 1) = 2 * (t * 2 ^ pm) := by rw [Nat.pow_succ]; ac_rfl
      have e53 : 2 ^ 53 * (b * 2 ^ pp) = 2 * (M * (b * 2 ^ pp)) := by rw [e, ← Nat.mul_assoc 2 (2 ^ 52), show 2 * 2 ^ 52 = 2 ^ 53 by decide]
      have hr : rnd (t * 2 ^ (pm + 1)) (b * 2 ^ pp) = 2 ^ 53 := by
        refine rnd_near hW ?_ ?_ fun h => absurd h (by decide)
        · rw [hk, e53]; lia
        · rw [hk, e53]; lia
      refine ⟨pm + 1, pp, ⟨?_, ?_⟩, Nat.le_succ _, Nat.le_refl _, rfl, ?_⟩
      · rw [hk]
        generalize 2 ^ 52 * (b * 2 ^ pp) = Y at *
        generalize M * (b * 2 ^ pp) = X at *
        lia
      · rw [hk, e53]
        generalize M * (b * 2 ^ pp) = X at *
        lia
      · rw [hr, e]
        have : pp + 1074 - pm = pp + 1074 - (pm + 1) + 1 := by lia
        rw [this, Nat.add_mul, Nat.one_mul, show (2 : Nat) ^ 53 = 2 ^ 52 + 2 ^ 52 by decide, Nat.add_assoc]
    · have m3 : 2 ^ 52 * (b * 2 ^ pp) + b * 2 ^ pp ≤ M * (b * 2 ^ pp) := by
        have : (2 ^ 52 + 1) * (b * 2 ^ pp) ≤ M * (b * 2 ^ pp) := Nat.mul_le_mul_right _ (by lia)
        rwa [Nat.add_mul, Nat.one_mul] at this
      refine ⟨pm, pp, ⟨?_, ?_⟩, Nat.le_refl _, Nat.le_succ _, rfl, by rw [rnd_near hW u1 d1 fun h => ⟨u2 h, d2 h⟩]⟩
      · generalize 2 ^ 52 * (b * 2 ^ pp) = Y at *
        generalize M * (b * 2 ^ pp) = X at *
        lia
      · generalize 2 ^ 53 * (b * 2 ^ pp) = Z at *
        generalize M * (b * 2 ^ pp) = X at *
        lia
theorem fit_exists {t b : Nat} (ht : 0 < t) (hb : 0 < b) : ∃ q, Fit t b (b.log2 + 53) q ∧ t.log2 ≤ q ∧ q ≤ t.log2 + 1 := by
  obtain ⟨a1, a2⟩ := (log2_is (Nat.ne_of_gt ht)).mp rfl
  obtain ⟨b1, b2⟩ := (log2_is (Nat.ne_of_gt hb)).mp rfl
  have l1 : 2 ^ 52 * (b * 2 ^ t.log2) ≤ t * 2 ^ (b.log2 + 53) := by
    calc 2 ^ 52 * (b * 2 ^ t.log2) ≤ 2 ^ 52 * (2 ^ (b.log2 + 1) * 2 ^ t.log2) := Nat.mul_le_mul_left _ (Nat.mul_le_mul_right _ (Nat.le_of_lt b2))
      _ = 2 ^ t.log2 * 2 ^ (b.log2 + 53) := by rw [← Nat.pow_add, ← Nat.pow_add, ← Nat.pow_add]; congr 1; lia
      _ ≤ _ := Nat.mul_le_mul_right _ a1
  have l2 : t * 2 ^ (b.log2 + 53) < 2 ^ 54 * (b * 2 ^ t.log2) := by
    calc t * 2 ^ (b.log2 + 53) < 2 ^ (t.log2 + 1) * 2 ^ (b.log2 + 53) := Nat.mul_lt_mul_of_pos_right a2 (Nat.two_pow_pos _)
      _ = 2 ^ 54 * (2 ^ b.log2 * 2 ^ t.log2) := by rw [← Nat.pow_add, ← Nat.pow_add, ← Nat.pow_add]; congr 1; lia
      _ ≤ _ := Nat.mul_le_mul_left _ (Nat.mul_le_mul_right _ b1)
  by_cases c : t * 2 ^ (b.log2 + 53) < 2 ^ 53 * (b * 2 ^ t.log2)
  · exact ⟨t.log2, ⟨l1, c⟩, Nat.le_refl _, Nat.le_succ _⟩
  · have e : b * 2 ^ (t.log2 + 1) = 2 * (b * 2 ^ t.log2) := by rw [Nat.pow_succ]; ac_rfl
    refine ⟨t.log2 + 1, ⟨?_, ?_⟩, Nat.le_succ _, Nat.le_refl _⟩
    · rw [e, ← Nat.mul_assoc]; exact Nat.not_lt.mp c
    · rw [e, ← Nat.mul_assoc]; exact l2
/-! the loop -/
noncomputable def lowB (ev : Bool) (r B : Nat) : Bool := decide (r < B) || (ev && decide (r = B))
noncomputable def highB (ev : Bool) (r A U : Nat) : Bool := decide (U < r + A) || (ev && decide (r + A = U))
noncomputable def lastF (fg r U : Nat) (lo hi : Bool) : Nat := if lo && hi then (if 2 * r = U then fg + fg % 2 else fg + (if U < 2 * r then 1 else 0)) else fg + (if hi then 1 else 0)
noncomputable def shL : Nat → Nat → Nat → Nat → Nat → Bool → List Nat
  | 0, _, _, _, _, _ => []
  | j + 1, N, A, B, U, ev =>
    if lowB ev (10 * N % U) (10 * B) || highB ev (10 * N % U) (10 * A) U then [lastF (10 * N / U) (10 * N % U) U (lowB ev (10 * N % U) (10 * B)) (highB ev (10 * N % U) (10 * A) U)]
    else (10 * N / U) :: shL j (10 * N % U) (10 * A) (10 * B) U ev
noncomputable def dval : List Nat → Nat
  | [] => 0
  | c :: r => c * 10 ^ r.length + dval r
theorem low_t {ev : Bool} {r B : Nat} (h : lowB ev r B = true) : r ≤ B ∧ (ev = false → r < B) := by
  unfold lowB at h
  simp only [Bool.or_eq_true, Bool.and_eq_true, decide_eq_true_eq] at h
  rcases h with h | ⟨h1, h2⟩
  · exact ⟨by lia, fun _ => h⟩
  · exact ⟨by lia, fun q => by rw [q] at h1; cases h1⟩
theorem high_t {ev : Bool} {r A U : Nat} (h : highB ev r A U = true) : U ≤ r + A ∧ (ev = false → U < r + A) := by
  unfold highB at h
  simp only [Bool.or_eq_true, Bool.and_eq_true, decide_eq_true_eq] at h
  rcases h with h | ⟨h1, h2⟩
  · exact ⟨by lia, fun _ => h⟩
  · exact ⟨by lia, fun q => by rw [q] at h1; cases h1⟩
theorem high_f {ev : Bool} {r A U : Nat} (h : highB ev r A U = false) : r + A ≤ U ∧ (ev = true → r + A < U) := by
  unfold highB at h
  simp only [Bool.or_eq_false_iff, Bool.and_eq_false_iff, decide_eq_false_iff_not] at h
  obtain ⟨h1, h2⟩ := h
  refine ⟨by lia, fun q => ?_⟩
  rcases h2 with h2 | h2
  · rw [q] at h2; cases h2
  · lia
theorem last_is {fg r U : Nat} {lo hi : Bool} (h : (lo || hi) = true) (hr : r < U) : (lastF fg r U lo hi = fg ∧ lo = true ∧ (hi = true → 2 * r ≤ U)) ∨ (lastF fg r U lo hi = fg + 1 ∧ hi = true) := by
  unfold lastF
  cases lo <;> cases hi <;> simp at h ⊢
  by_cases a : 2 * r = U
  · rw [if_pos a]
    rcases Nat.mod_two_eq_zero_or_one fg with e | e <;> rw [e] <;> simp; lia
  · rw [if_neg a]
    by_cases b : U < 2 * r
    · rw [if_pos b]; simp
    · rw [if_neg b]; simp; lia
noncomputable def Near (D N A B U n : Nat) (ev : Bool) : Prop :=
  (D * U ≤ N * 10 ^ n ∧ N * 10 ^ n ≤ D * U + B * 10 ^ n ∧ (ev = false → N * 10 ^ n < D * U + B * 10 ^ n)) ∨
  (N * 10 ^ n ≤ D * U ∧ D * U ≤ N * 10 ^ n + A * 10 ^ n ∧ (ev = false → D * U < N * 10 ^ n + A * 10 ^ n))
theorem sh_near : ∀ (j N A B U : Nat) (ev : Bool), 0 < U → N + A ≤ U → (ev = true → N + A < U) → B ≤ A → U < B * 10 ^ j →
    (∀ c ∈ shL j N A B U ev, c ≤ 9) ∧ shL j N A B U ev ≠ [] ∧ (shL j N A B U ev).length ≤ j ∧ Near (dval (shL j N A B U ev)) N A B U (shL j N A B U ev).length ev
  | 0, N, A, B, U, ev, hU, h1, h2, h3, h4 => by lia
  | j + 1, N, A, B, U, ev, hU, h1, h2, h3, h4 => by
    have hdm := Nat.div_add_mod (10 * N) U
    have hr : 10 * N % U < U := Nat.mod_lt _ hU
    unfold shL
    generalize hf : 10 * N / U = fg at hdm ⊢
    generalize hq : 10 * N % U = r at hdm hr ⊢
    have hUf : U * fg = fg * U := Nat.mul_comm _ _
    have hB : 0 < B := Nat.pos_of_ne_zero fun q => by rw [q] at h4; lia
    by_cases c : (lowB ev r (10 * B) || highB ev r (10 * A) U) = true
    · rw [if_pos c]
      have nine : fg < 10 := by
        have : fg * U < 10 * U := by rw [← hUf]; lia
        exact Nat.lt_of_mul_lt_mul_right this
      rcases last_is (fg := fg) c hr with ⟨e, lo, _⟩ | ⟨e, hi⟩
      · rw [e]
        obtain ⟨p1, p2⟩ := low_t lo
        refine ⟨fun x hx => by rw [List.mem_singleton.mp hx]; lia, by simp, by simp, .inl ?_⟩
        simp only [dval, List.length_cons, List.length_nil, Nat.pow_zero, Nat.mul_one, Nat.zero_add, Nat.pow_one, Nat.add_zero]
        refine ⟨by lia, by lia, fun q => ?_⟩
        have := p2 q; lia
      · rw [e]
        obtain ⟨p1, p2⟩ := high_t hi
        have e10 : (fg + 1) * U = fg * U + U := by rw [Nat.add_mul, Nat.one_mul]
        have nine : fg < 9 := by
          have : fg * U < 9 * U := by
            by_cases q : ev = false
            · have := p2 q; lia
            · have := h2 (by simpa using q); lia
          exact Nat.lt_of_mul_lt_mul_right this
        refine ⟨fun x hx => by rw [List.mem_singleton.mp hx]; lia, by simp, by simp, .inr ?_⟩
        simp only [dval, List.length_cons, List.length_nil, Nat.pow_zero, Nat.mul_one, Nat.zero_add, Nat.pow_one, Nat.add_zero]
        refine ⟨by lia, by lia, fun q => ?_⟩
        have := p2 q; lia
    · rw [if_neg c]
      simp only [Bool.not_eq_true, Bool.or_eq_false_iff] at c
      obtain ⟨p1, p2⟩ := high_f c.2
      have nine : fg < 10 := by
        have : fg * U < 10 * U := by rw [← hUf]; lia
        exact Nat.lt_of_mul_lt_mul_right this
      obtain ⟨i1, i2, i3, i4⟩ := sh_near j r (10 * A) (10 * B) U ev hU p1 p2 (by lia) (by rw [Nat.pow_succ] at h4; rw [Nat.mul_comm 10 B, Nat.mul_assoc, Nat.mul_comm 10]; exact h4)
      refine ⟨fun x hx => ?_, by simp, by simp; exact i3, ?_⟩
      · rcases List.mem_cons.mp hx with e | hx
        · lia
        · exact i1 x hx
      · generalize shL j r (10 * A) (10 * B) U ev = ds at i4 ⊢
        have e1 : N * 10 ^ (ds.length + 1) = fg * 10 ^ ds.length * U + r * 10 ^ ds.length := by
          have : N * 10 ^ (ds.length + 1) = 10 * N * 10 ^ ds.length := by rw [Nat.pow_succ]; ac_rfl
          rw [this, ← hdm, Nat.add_mul]
          congr 1
          ac_rfl
        have e2 : B * 10 ^ (ds.length + 1) = 10 * B * 10 ^ ds.length := by rw [Nat.pow_succ]; ac_rfl
        have e3 : A * 10 ^ (ds.length + 1) = 10 * A * 10 ^ ds.length := by rw [Nat.pow_succ]; ac_rfl
        unfold Near at i4 ⊢
        simp only [List.length_cons, dval, e1, e2, e3, Nat.add_mul]
        rcases i4 with ⟨q1, q2, q3⟩ | ⟨q1, q2, q3⟩
        · exact .inl ⟨by lia, by lia, fun q => by have := q3 q; lia⟩
        · exact .inr ⟨by lia, by lia, fun q => by have := q3 q; lia⟩
theorem sh_first {j N A B U : Nat} {ev : Bool} (hU : 0 < U) (h : U ≤ 10 * N ∨ highB ev (10 * N) (10 * A) U = true) (hA : 20 * A ≤ N) : ∃ c r, shL (j + 1) N A B U ev = c :: r ∧ 1 ≤ c := by
  unfold shL
  by_cases q : U ≤ 10 * N
  · have h1 : 1 ≤ 10 * N / U := (Nat.le_div_iff_mul_le hU).mpr (by lia)
    split
    · refine ⟨_, _, rfl, ?_⟩
      rcases last_is (fg := 10 * N / U) (by assumption) (Nat.mod_lt _ hU) with ⟨e, _⟩ | ⟨e, _⟩ <;> rw [e] <;> lia
    · exact ⟨_, _, rfl, h1⟩
  · have h := h.resolve_left q
    have e1 : 10 * N / U = 0 := Nat.div_eq_of_lt (by lia)
    have e2 : 10 * N % U = 10 * N := Nat.mod_eq_of_lt (by lia)
    rw [e1, e2, h, Bool.or_true, if_pos rfl]
    refine ⟨_, _, rfl, ?_⟩
    have p := (high_t h).1
    rcases last_is (fg := 0) (r := 10 * N) (U := U) (lo := lowB ev (10 * N) (10 * B)) (hi := true) (by simp) (by lia) with ⟨e, _, e3⟩ | ⟨e, _⟩
    · have := e3 rfl; lia
    · rw [e]; lia
end Mine
namespace Mine
noncomputable def hiP (e : Int) : Nat := 10 ^ e.toNat
noncomputable def loP (e : Int) : Nat := 10 ^ (-e).toNat
theorem hiP_pos (e : Int) : 0 < hiP e := Nat.pow_pos (by decide)
theorem loP_pos (e : Int) : 0 < loP e := Nat.pow_pos (by decide)
theorem hl_step (e : Int) : hiP (e + 1) * loP e = 10 * (hiP e * loP (e + 1)) := by
  unfold hiP loP
  rw [← Nat.pow_add, ← Nat.pow_add, ← Nat.pow_succ']
  congr 1
  lia
noncomputable def dLen (n : Nat) : Nat := (Nat.toDigits 10 n).length
theorem dLen_lt {n : Nat} : n < 10 ^ dLen n := by
  apply Nat.lt_of_not_le
  intro h
  have := digits10_ge h
  unfold dLen at this
  lia
theorem dLen_ge {n : Nat} (h : 0 < n) : 10 ^ (dLen n - 1) ≤ n ∧ 1 ≤ dLen n := by
  have h1 : 1 ≤ dLen n := tDigits_len_ge 10 n
  refine ⟨?_, h1⟩
  apply Nat.le_of_not_lt
  intro q
  by_cases k : dLen n = 1
  · rw [k] at q
    have : n < 1 := q
    lia
  · have := digits10_le (k := dLen n - 1) (by lia) q
    unfold dLen at *
    omega
noncomputable def dpI (N U : Nat) : Int :=
  if (0 ≤ (dLen N : Int) - dLen U ∧ U * hiP ((dLen N : Int) - dLen U) ≤ N) ∨ ((dLen N : Int) - dLen U < 0 ∧ U ≤ N * loP ((dLen N : Int) - dLen U)) then (dLen N : Int) - dLen U + 1 else (dLen N : Int) - dLen U
theorem dp_spec {N U : Nat} (hN : 0 < N) (hU : 0 < U) : N * loP (dpI N U) < U * hiP (dpI N U) ∧ U * hiP (dpI N U - 1) ≤ N * loP (dpI N U - 1) := by
  have n1 := dLen_lt (n := N)
  have u1 := dLen_lt (n := U)
  obtain ⟨n2, n3⟩ := dLen_ge hN
  obtain ⟨u2, u3⟩ := dLen_ge hU
  unfold dpI
  generalize dLen N = a at *
  generalize dLen U = b at *
  -- 10^(a-1) ≤ N < 10^a, 10^(b-1) ≤ U < 10^b
  have up : N * loP ((a : Int) - b + 1) < U * hiP ((a : Int) - b + 1) := by
    unfold hiP loP
    calc N * 10 ^ (-((a : Int) - b + 1)).toNat < 10 ^ a * 10 ^ (-((a : Int) - b + 1)).toNat := Nat.mul_lt_mul_of_pos_right n1 (Nat.pow_pos (by decide))
      _ = 10 ^ (b - 1) * 10 ^ ((a : Int) - b + 1).toNat := by rw [← Nat.pow_add, ← Nat.pow_add]; congr 1; lia
      _ ≤ _ := Nat.mul_le_mul_right _ u2
  have dn : U * hiP ((a : Int) - b - 1) ≤ N * loP ((a : Int) - b - 1) := by
    unfold hiP loP
    calc U * 10 ^ ((a : Int) - b - 1).toNat ≤ 10 ^ b * 10 ^ ((a : Int) - b - 1).toNat := Nat.mul_le_mul_right _ (Nat.le_of_lt u1)
      _ = 10 ^ (a - 1) * 10 ^ (-((a : Int) - b - 1)).toNat := by rw [← Nat.pow_add, ← Nat.pow_add]; congr 1; lia
      _ ≤ _ := Nat.mul_le_mul_right _ n2
  have lo0 : 0 ≤ (a : Int) - b → loP ((a : Int) - b) = 1 := fun h => by unfold loP; rw [show (-((a : Int) - b)).toNat = 0 by lia, Nat.pow_zero]
  have hi0 : (a : Int) - b < 0 → hiP ((a : Int) - b) = 1 := fun h => by unfold hiP; rw [show ((a : Int) - b).toNat = 0 by lia, Nat.pow_zero]
  split
  · rename_i c
    refine ⟨up, ?_⟩
    rw [Int.add_sub_cancel]
    rcases c with ⟨c1, c2⟩ | ⟨c1, c2⟩
    · rw [lo0 c1, Nat.mul_one]; exact c2
    · rw [hi0 c1, Nat.mul_one]; exact c2
  · rename_i c
    refine ⟨?_, dn⟩
    by_cases k : 0 ≤ (a : Int) - b
    · rw [lo0 k, Nat.mul_one]
      exact Nat.lt_of_not_le fun q => c (.inl ⟨k, q⟩)
    · have k := Int.not_le.mp k
      rw [hi0 k, Nat.mul_one]
      exact Nat.lt_of_not_le fun q => c (.inr ⟨k, q⟩)
noncomputable def plI (N A U : Nat) (ev : Bool) : Int :=
  if U * hiP (dpI N U) < (N + A) * loP (dpI N U) ∨ (ev = true ∧ (N + A) * loP (dpI N U) = U * hiP (dpI N U)) then dpI N U + 1 else dpI N U
theorem cancel_le {a b c : Nat} (hc : 0 < c) (h : a * c ≤ b * c) : a ≤ b := Nat.le_of_mul_le_mul_right h hc
theorem cancel_lt {a b c : Nat} (h : a * c < b * c) : a < b := Nat.lt_of_mul_lt_mul_right h
theorem pl_spec {N A U : Nat} (ev : Bool) (hN : 0 < N) (hU : 0 < U) (hA : A ≤ N) :
    (N + A) * loP (plI N A U ev) ≤ U * hiP (plI N A U ev) ∧ (ev = true → (N + A) * loP (plI N A U ev) < U * hiP (plI N A U ev)) ∧
    (U * hiP (plI N A U ev) ≤ 10 * (N * loP (plI N A U ev)) ∨ highB ev (10 * (N * loP (plI N A U ev))) (10 * (A * loP (plI N A U ev))) (U * hiP (plI N A U ev)) = true) := by
  obtain ⟨s1, s2⟩ := dp_spec hN hU
  unfold plI
  generalize dpI N U = f at *
  split
  · rename_i c
    have st := hl_step f
    have key : (N + A) * loP (f + 1) < U * hiP (f + 1) := by
      apply cancel_lt (c := loP f)
      have e1 : U * hiP (f + 1) * loP f = 10 * (U * hiP f) * loP (f + 1) := by rw [Nat.mul_assoc, st]; ac_rfl
      have e2 : (N + A) * loP (f + 1) * loP f = (N + A) * loP f * loP (f + 1) := by ac_rfl
      rw [e1, e2]
      apply Nat.mul_lt_mul_of_pos_right _ (loP_pos _)
      have : A * loP f ≤ N * loP f := Nat.mul_le_mul_right _ hA
      rw [Nat.add_mul]
      lia
    refine ⟨Nat.le_of_lt key, fun _ => key, .inr ?_⟩
    unfold highB
    have e1 : U * hiP (f + 1) * loP f = (U * hiP f) * (10 * loP (f + 1)) := by rw [Nat.mul_assoc, st]; ac_rfl
    have e2 : (10 * (N * loP (f + 1)) + 10 * (A * loP (f + 1))) * loP f = (N + A) * loP f * (10 * loP (f + 1)) := by
      rw [← Nat.mul_add, ← Nat.add_mul]; ac_rfl
    rcases c with c | ⟨c1, c2⟩
    · have : U * hiP (f + 1) < 10 * (N * loP (f + 1)) + 10 * (A * loP (f + 1)) := by
        apply cancel_lt (c := loP f)
        rw [e1, e2]
        exact Nat.mul_lt_mul_of_pos_right c (Nat.mul_pos (by decide) (loP_pos _))
      rw [decide_eq_true this]; rfl
    · have : 10 * (N * loP (f + 1)) + 10 * (A * loP (f + 1)) = U * hiP (f + 1) := by
        apply Nat.eq_of_mul_eq_mul_right (loP_pos f)
        rw [e1, e2, c2]
      rw [decide_eq_true this, c1, Bool.and_self, Bool.or_true]
  · rename_i c
    refine ⟨Nat.le_of_not_lt fun q => c (.inl q), fun hev => ?_, .inl ?_⟩
    · have h1 : (N + A) * loP f ≤ U * hiP f := Nat.le_of_not_lt fun q => c (.inl q)
      have h2 : (N + A) * loP f ≠ U * hiP f := fun q => c (.inr ⟨hev, q⟩)
      omega
    · have st := hl_step (f - 1)
      rw [Int.sub_add_cancel] at st
      apply cancel_le (loP_pos (f - 1))
      have e1 : U * hiP f * loP (f - 1) = U * hiP (f - 1) * (10 * loP f) := by rw [Nat.mul_assoc, st]; ac_rfl
      have e2 : 10 * (N * loP f) * loP (f - 1) = N * loP (f - 1) * (10 * loP f) := by ac_rfl
      rw [e1, e2]
      exact Nat.mul_le_mul_right _ s2
/-! the figures of a double -/
noncomputable def fac (M : Nat) : Nat := if M = 2 ^ 52 then 4 else 2
noncomputable def abv (M : Nat) : Nat := if M = 2 ^ 52 then 2 else 1
noncomputable def evn (M : Nat) : Bool := decide (M % 2 = 0)
noncomputable def sN (M pp : Nat) : Nat := M * fac M * 2 ^ pp
noncomputable def sA (M pp : Nat) : Nat := abv M * 2 ^ pp
noncomputable def sB (pp : Nat) : Nat := 2 ^ pp
noncomputable def sU (M pm : Nat) : Nat := fac M * 2 ^ pm
noncomputable def sP (M pp pm : Nat) : Int := plI (sN M pp) (sA M pp) (sU M pm) (evn M)
noncomputable def sD (M pp pm : Nat) : List Nat := shL 20 (sN M pp * loP (sP M pp pm)) (sA M pp * loP (sP M pp pm)) (sB pp * loP (sP M pp pm)) (sU M pm * hiP (sP M pp pm)) (evn M)
theorem fac_pos (M : Nat) : 0 < fac M := by unfold fac; split <;> decide
theorem fa (M : Nat) : fac M = 2 * abv M := by unfold fac abv; split <;> rfl
theorem abv_pos (M : Nat) : 0 < abv M ∧ abv M ≤ 2 := by unfold abv; split <;> decide
theorem far_aux {X : Nat} (h : 0 < X) : 10 * (2 ^ 53 * 4 * X) + 10 * (2 * X) < X * 10 ^ 20 := by
  have e : 10 * (2 ^ 53 * 4 * X) + 10 * (2 * X) = (10 * (2 ^ 53 * 4) + 10 * 2) * X := by rw [Nat.add_mul, Nat.mul_assoc 10 (2 ^ 53 * 4) X, Nat.mul_assoc 10 2 X]
  rw [e, Nat.mul_comm X]
  exact Nat.mul_lt_mul_of_pos_right (by decide) h
structure ShOk (M pp pm : Nat) : Prop where
  u : 0 < sU M pm * hiP (sP M pp pm)
  na : sN M pp * loP (sP M pp pm) + sA M pp * loP (sP M pp pm) ≤ sU M pm * hiP (sP M pp pm)
  nas : evn M = true → sN M pp * loP (sP M pp pm) + sA M pp * loP (sP M pp pm) < sU M pm * hiP (sP M pp pm)
  ba : sB pp * loP (sP M pp pm) ≤ sA M pp * loP (sP M pp pm)
  far : sU M pm * hiP (sP M pp pm) < sB pp * loP (sP M pp pm) * 10 ^ 20
theorem sh_start {M pp pm : Nat} (hM : 2 ^ 52 ≤ M) (hM2 : M < 2 ^ 53) : ShOk M pp pm ∧ ∃ c r, sD M pp pm = c :: r ∧ 1 ≤ c := by
  have p1 : 0 < 2 ^ pp := Nat.two_pow_pos _
  have hU : 0 < sU M pm := Nat.mul_pos (fac_pos M) (Nat.two_pow_pos _)
  have eN : sN M pp = M * fac M * sB pp := rfl
  have eA : sA M pp = abv M * sB pp := rfl
  have hB : 0 < sB pp := p1
  obtain ⟨ab1, ab2⟩ := abv_pos M
  have h40 : 40 ≤ M * fac M := by
    have h1 : 40 * 1 ≤ M * fac M := Nat.mul_le_mul (Nat.le_trans (by decide) hM) (fac_pos M)
    exact h1
  have hN : 0 < sN M pp := Nat.mul_pos (by lia) hB
  have hA : sA M pp ≤ sN M pp := by rw [eN, eA]; exact Nat.mul_le_mul_right _ (by lia)
  obtain ⟨s1, s2, s3⟩ := pl_spec (A := sA M pp) (evn M) hN hU hA
  have hP : plI (sN M pp) (sA M pp) (sU M pm) (evn M) = sP M pp pm := rfl
  rw [hP] at s1 s2 s3
  rw [Nat.add_mul] at s1 s2
  have hB1 : 0 < sB pp * loP (sP M pp pm) := Nat.mul_pos hB (loP_pos _)
  have eN1 : sN M pp * loP (sP M pp pm) = M * fac M * (sB pp * loP (sP M pp pm)) := by rw [eN, Nat.mul_assoc]
  have eA1 : sA M pp * loP (sP M pp pm) = abv M * (sB pp * loP (sP M pp pm)) := by rw [eA, Nat.mul_assoc]
  have hUU : 0 < sU M pm * hiP (sP M pp pm) := Nat.mul_pos hU (hiP_pos _)
  have hU10 : sU M pm * hiP (sP M pp pm) ≤ 10 * (sN M pp * loP (sP M pp pm)) + 10 * (sA M pp * loP (sP M pp pm)) := by
    rcases s3 with s3 | s3
    · lia
    · exact (high_t s3).1
  have hf : fac M ≤ 4 := by unfold fac; split <;> decide
  have hMf : M * fac M ≤ 2 ^ 53 * 4 := Nat.mul_le_mul (Nat.le_of_lt hM2) hf
  have far : sU M pm * hiP (sP M pp pm) < sB pp * loP (sP M pp pm) * 10 ^ 20 := by
    have h1 : M * fac M * (sB pp * loP (sP M pp pm)) ≤ 2 ^ 53 * 4 * (sB pp * loP (sP M pp pm)) := Nat.mul_le_mul_right _ hMf
    have h2 : abv M * (sB pp * loP (sP M pp pm)) ≤ 2 * (sB pp * loP (sP M pp pm)) := Nat.mul_le_mul_right _ ab2
    rw [eN1, eA1] at hU10
    refine Nat.lt_of_le_of_lt hU10 (Nat.lt_of_le_of_lt (Nat.add_le_add (Nat.mul_le_mul_left 10 h1) (Nat.mul_le_mul_left 10 h2)) ?_)
    exact far_aux hB1
  refine ⟨⟨hUU, s1, s2, ?_, far⟩, ?_⟩
  · exact Nat.mul_le_mul_right _ (by rw [eA]; exact Nat.le_mul_of_pos_left _ ab1)
  · unfold sD
    refine sh_first hUU s3 ?_
    rw [eN1, eA1, ← Nat.mul_assoc]
    exact Nat.mul_le_mul_right _ (by lia)
theorem sh_back {M pp pm : Nat} (hM : 2 ^ 52 ≤ M) (hM2 : M < 2 ^ 53) (hp : pm < pp + 1074) :
    (∀ c ∈ sD M pp pm, c ≤ 9) ∧ (∃ c r, sD M pp pm = c :: r ∧ 1 ≤ c) ∧ (sD M pp pm).length ≤ 20 ∧
    ∃ K q, Fit (dval (sD M pp pm) * hiP (sP M pp pm - (sD M pp pm).length)) (loP (sP M pp pm - (sD M pp pm).length)) K q ∧ pm ≤ K ∧ K ≤ pm + 1 ∧ q = pp ∧
      (q + 1074 - K) * 2 ^ 52 + rnd (dval (sD M pp pm) * hiP (sP M pp pm - (sD M pp pm).length) * 2 ^ K) (loP (sP M pp pm - (sD M pp pm).length) * 2 ^ q) = (pp + 1074 - pm) * 2 ^ 52 + M := by
  obtain ⟨⟨k1, k2, k3, k4, k5⟩, first⟩ := sh_start (pp := pp) (pm := pm) hM hM2
  obtain ⟨n1, n2, n3, n4⟩ := sh_near 20 (sN M pp * loP (sP M pp pm)) (sA M pp * loP (sP M pp pm)) (sB pp * loP (sP M pp pm)) (sU M pm * hiP (sP M pp pm)) (evn M) k1 k2 k3 k4 k5
  refine ⟨n1, first, n3, ?_⟩
  change Near (dval (sD M pp pm)) _ _ _ _ (sD M pp pm).length _ at n4
  generalize sP M pp pm = P at *
  generalize sD M pp pm = ds at *
  generalize hn : ds.length = n at *
  generalize dval ds = D at *
  have hb := loP_pos (P - n)
  generalize hc : 10 ^ n * loP P = c
  have c0 : 0 < c := by rw [← hc]; exact Nat.mul_pos (Nat.pow_pos (by decide)) (loP_pos _)
  have sw : hiP P * loP (P - n) = hiP (P - n) * c := by
    rw [← hc]; unfold hiP loP
    rw [← Nat.pow_add, ← Nat.pow_add, ← Nat.pow_add]; congr 1; lia
  generalize hiP (P - n) = h at *
  generalize loP (P - n) = b at *
  have eD : D * (sU M pm * hiP P) * b = fac M * (D * h * 2 ^ pm) * c := by
    unfold sU
    calc D * (fac M * 2 ^ pm * hiP P) * b = D * (fac M * 2 ^ pm) * (hiP P * b) := by ac_rfl
      _ = _ := by rw [sw]; ac_rfl
  have eX : ∀ x : Nat, x * 2 ^ pp * loP P * 10 ^ n * b = x * (b * 2 ^ pp) * c := fun x => by rw [← hc]; ac_rfl
  have eN : sN M pp * loP P * 10 ^ n * b = fac M * (M * (b * 2 ^ pp)) * c := by unfold sN; rw [eX]; ac_rfl
  have eA : sA M pp * loP P * 10 ^ n * b = abv M * (b * 2 ^ pp) * c := eX _
  have eB : sB pp * loP P * 10 ^ n * b = b * 2 ^ pp * c := by
    have := eX 1
    rw [Nat.one_mul, Nat.one_mul] at this
    exact this
  have evn_odd : M % 2 = 1 → evn M = false := fun q => by unfold evn; rw [decide_eq_false]; lia
  -- the two inequalities
  have near : (fac M * (D * h * 2 ^ pm) ≤ fac M * (M * (b * 2 ^ pp)) ∧ fac M * (M * (b * 2 ^ pp)) ≤ fac M * (D * h * 2 ^ pm) + b * 2 ^ pp ∧ (M % 2 = 1 → fac M * (M * (b * 2 ^ pp)) < fac M * (D * h * 2 ^ pm) + b * 2 ^ pp)) ∨
      (fac M * (M * (b * 2 ^ pp)) ≤ fac M * (D * h * 2 ^ pm) ∧ fac M * (D * h * 2 ^ pm) ≤ fac M * (M * (b * 2 ^ pp)) + abv M * (b * 2 ^ pp) ∧ (M % 2 = 1 → fac M * (D * h * 2 ^ pm) < fac M * (M * (b * 2 ^ pp)) + abv M * (b * 2 ^ pp))) := by
    rcases n4 with ⟨q1, q2, q3⟩ | ⟨q1, q2, q3⟩
    · refine .inl ⟨cancel_le c0 ?_, cancel_le c0 ?_, fun o => cancel_lt (c := c) ?_⟩
      · rw [← eD, ← eN]; exact Nat.mul_le_mul_right _ q1
      · rw [Nat.add_mul, ← eD, ← eN, ← eB, ← Nat.add_mul]; exact Nat.mul_le_mul_right _ q2
      · rw [Nat.add_mul, ← eD, ← eN, ← eB, ← Nat.add_mul]; exact Nat.mul_lt_mul_of_pos_right (q3 (evn_odd o)) hb
    · refine .inr ⟨cancel_le c0 ?_, cancel_le c0 ?_, fun o => cancel_lt (c := c) ?_⟩
      · rw [← eD, ← eN]; exact Nat.mul_le_mul_right _ q1
      · rw [Nat.add_mul, ← eD, ← eN, ← eA, ← Nat.add_mul]; exact Nat.mul_le_mul_right _ q2
      · rw [Nat.add_mul, ← eD, ← eN, ← eA, ← Nat.add_mul]; exact Nat.mul_lt_mul_of_pos_right (q3 (evn_odd o)) hb
  have hfa := fa M
  by_cases e : M = 2 ^ 52
  · have f4 : fac M = 4 := by unfold fac; rw [if_pos e]
    have a2 : abv M = 2 := by unfold abv; rw [if_pos e]
    have ne : ¬ M % 2 = 1 := by rw [e]; decide
    rw [f4, a2] at near
    refine near_bits hb hM hM2 hp ?_ (fun o => absurd o ne) ?_ (fun o => absurd o ne) (fun _ => ?_) <;>
    · generalize D * h * 2 ^ pm = T at *
      generalize M * (b * 2 ^ pp) = X at *
      generalize b * 2 ^ pp = W at *
      lia
  · have f2 : fac M = 2 := by unfold fac; rw [if_neg e]
    have a1 : abv M = 1 := by unfold abv; rw [if_neg e]
    rw [f2, a1] at near
    refine near_bits hb hM hM2 hp ?_ ?_ ?_ ?_ (fun o => absurd o e) <;>
    · clear e hM hM2
      generalize D * h * 2 ^ pm = T at *
      generalize M * (b * 2 ^ pp) = X at *
      generalize b * 2 ^ pp = W at *
      lia
end Mine
namespace Mine
/-! ## texts of numbers -/
noncomputable def dtx (n : Nat) : List Nat := (Nat.toDigits 10 n).map Char.toNat
theorem dtx_len (n : Nat) : (dtx n).length = dLen n := by unfold dtx dLen; rw [List.length_map]
theorem bi_strn {σ : St} {n : Nat} (h : n < 2 ^ 1900) : biV σ 7 [.int n] = some (.str (dtx n)) := by
  rw [bi_str, Int.natAbs_natCast, PySem.W.KIN.signs_num]
  have : n.log2 < 1920 := by
    by_cases h0 : n = 0
    · subst h0; decide
    · exact Nat.lt_trans ((Nat.log2_lt h0).mpr h) (by decide)
  rw [decide_eq_true this]; rfl
theorem dLen_le {n k : Nat} (h : n < 2 ^ k) (hk : 1 ≤ k) : dLen n ≤ k := digits10_le hk (Nat.lt_of_lt_of_le h (Nat.pow_le_pow_left (by decide) k))
theorem dtx_fig : ∀ c : Nat, c ≤ 9 → dtx c = [48 + c] := by
  intro c h
  have : ∀ c : Nat, c < 10 → dtx c = [48 + c] := by decide
  exact this c (by lia)
theorem p10c (e : Int) : (10 : Int) ^ e.toNat = ((hiP e : Nat) : Int) := pow10 _
theorem p10l (e : Int) : (10 : Int) ^ (0 - e).toNat = ((loP e : Nat) : Int) := by rw [Int.zero_sub]; exact pow10 _
theorem mulc (a b : Nat) : (a : Int) * (b : Int) = ((a * b : Nat) : Int) := (Int.natCast_mul a b).symm
theorem addc (a b : Nat) : (a : Int) + (b : Int) = ((a + b : Nat) : Int) := (Int.natCast_add a b).symm
theorem powG10 {e : Int} (h : 0 ≤ e) (h2 : e ≤ 1000) : powG 10 e = true := by
  obtain ⟨n, rfl⟩ := Int.eq_ofNat_of_zero_le h
  exact powG_nat (a := 10) (by decide) (by lia)
theorem hiP_lt {e : Int} {k : Nat} (h : e ≤ k) : hiP e < 2 ^ (4 * k + 1) := by
  unfold hiP
  refine Nat.lt_of_le_of_lt (Nat.pow_le_pow_left (show 10 ≤ 2 ^ 4 by decide) e.toNat) ?_
  rw [← Nat.pow_mul]; exact Nat.pow_lt_pow_right (by decide) (by lia)
theorem loP_lt {e : Int} {k : Nat} (h : -(k : Int) ≤ e) : loP e < 2 ^ (4 * k + 1) := by
  unfold loP
  refine Nat.lt_of_le_of_lt (Nat.pow_le_pow_left (show 10 ≤ 2 ^ 4 by decide) _) ?_
  rw [← Nat.pow_mul]; exact Nat.pow_lt_pow_right (by decide) (by lia)
theorem mul_lt2 {a b i j : Nat} (h1 : a < 2 ^ i) (h2 : b < 2 ^ j) : a * b < 2 ^ (i + j) := by
  rw [Nat.pow_add]
  exact Nat.mul_lt_mul_of_lt_of_le h1 (Nat.le_of_lt h2) (Nat.two_pow_pos _)
section
variable {C : Nat → List V → St → Option (V × St)} {σ : St} {d N A U : Nat}
theorem r_decimal_place (hN : 0 < N) (hU : 0 < U) (h1 : N < 2 ^ 360) (h2 : U < 2 ^ 360) : callM prog F0 (d + 1) 309 [.int N, .int U] σ = some (.int (dpI N U), σ) := by
  have a1 := bi_strn (σ := σ) (Nat.lt_of_lt_of_le h1 (show 2 ^ 360 ≤ 2 ^ 1900 from Nat.pow_le_pow_right (by decide) (by decide)))
  have a2 := bi_strn (σ := σ) (Nat.lt_of_lt_of_le h2 (show 2 ^ 360 ≤ 2 ^ 1900 from Nat.pow_le_pow_right (by decide) (by decide)))
  have l1 := dLen_le h1 (by decide)
  have l2 := dLen_le h2 (by decide)
  have b1 := bi_len (σ := σ) (s := dtx N) (by rw [dtx_len]; lia)
  have b2 := bi_len (σ := σ) (s := dtx U) (by rw [dtx_len]; lia)
  rw [dtx_len] at b1 b2
  have dd : dpI N U = if (0 ≤ (dLen N : Int) - dLen U ∧ U * hiP ((dLen N : Int) - dLen U) ≤ N) ∨ ((dLen N : Int) - dLen U < 0 ∧ U ≤ N * loP ((dLen N : Int) - dLen U)) then (dLen N : Int) - dLen U + 1 else (dLen N : Int) - dLen U := rfl
  refine run_eq (o := .ret (.int (dpI N U)) σ) (Λ := [some (.int N), some (.int U), none]) (f := p_decimal_place) rfl rfl rfl ?_
  refine s_set (x := .int ((dLen N : Int) - dLen U)) (σ₁ := σ) (by simp only [Option.bind_some, Option.map_some, lget_zero, lget_succ, q_m_loc, q_m_bin, q_m_bi, q_l_nil, q_l_cons, o_sub, a1, a2, b1, b2]) ?_
  rw [dd]
  have bF : ((dLen N : Int) - dLen U) ≤ 360 ∧ -360 ≤ ((dLen N : Int) - dLen U) := by lia
  generalize ((dLen N : Int) - dLen U) = F at *
  have mU : mulG (U : Int) ((hiP F : Nat) : Int) = true := mulG_nat (lt9 h2 (by decide)) (lt9 (hiP_lt (k := 360) bF.1) (by decide))
  have mN : mulG (N : Int) ((loP F : Nat) : Int) = true := mulG_nat (lt9 h1 (by decide)) (lt9 (loP_lt (k := 360) bF.2) (by decide))
  by_cases c : 0 ≤ F
  · have c2 : ¬ F < 0 := by lia
    have pg := powG10 c (by lia)
    by_cases q : U * hiP F ≤ N
    · have q' : ((U * hiP F : Nat) : Int) ≤ (N : Int) := by lia
      rw [if_pos (.inl ⟨c, q⟩)]
      exact s_if_rt (x := .bool true) (σ₁ := σ) (by simp only [Option.bind_some, Option.map_some, lget_zero, lget_succ, List.set_cons_zero, List.set_cons_succ, q_m_cst, q_m_loc, q_m_bin, q_m_cmp, q_m_and, guard_t, ifB_t, o_mul, o_pow, c_ge, v_bool, decide_true, c, pg, p10c, mU, mulc, q']) rfl (s_ret (by simp only [Option.bind_some, Option.map_some, lget_zero, lget_succ, List.set_cons_zero, List.set_cons_succ, q_m_cst, q_m_loc, q_m_bin, o_add]))
    · have q' : ¬ ((U * hiP F : Nat) : Int) ≤ (N : Int) := by lia
      rw [if_neg (fun h => h.elim (fun h => q h.2) (fun h => c2 h.1))]
      refine s_if_f (x := .bool false) (σ₁ := σ) (by simp only [Option.bind_some, Option.map_some, lget_zero, lget_succ, List.set_cons_zero, List.set_cons_succ, q_m_cst, q_m_loc, q_m_bin, q_m_cmp, q_m_and, guard_t, ifB_t, o_mul, o_pow, c_ge, v_bool, decide_true, decide_false, c, pg, p10c, mU, mulc, q']) rfl s_nil (s_ret ?_)
      simp only [Option.bind_some, Option.map_some, lget_zero, lget_succ, List.set_cons_zero, List.set_cons_succ, q_m_cst, q_m_loc, q_m_bin, q_m_cmp, q_m_and, q_m_ite, t_bool, ifB_f, o_add, o_sub, o_pow, c_lt, v_bool, decide_false, c2]
  · have c2 : F < 0 := by lia
    have pg := powG10 (e := 0 - F) (by lia) (by lia)
    refine s_if_f (x := .bool false) (σ₁ := σ) (by simp only [Option.bind_some, Option.map_some, lget_zero, lget_succ, List.set_cons_zero, List.set_cons_succ, q_m_cst, q_m_loc, q_m_bin, q_m_cmp, q_m_and, ifB_f, o_pow, c_ge, v_bool, decide_false, c]) rfl s_nil ?_
    by_cases q : U ≤ N * loP F
    · have q' : (U : Int) ≤ ((N * loP F : Nat) : Int) := by lia
      rw [if_pos (.inr ⟨c2, q⟩)]
      exact s_ret (by simp only [Option.bind_some, Option.map_some, lget_zero, lget_succ, List.set_cons_zero, List.set_cons_succ, q_m_cst, q_m_loc, q_m_bin, q_m_cmp, q_m_and, q_m_ite, t_bool, guard_t, ifB_t, o_add, o_sub, o_mul, o_pow, c_lt, c_ge, v_bool, decide_true, c2, pg, p10l, mN, mulc, q'])
    · have q' : ¬ (U : Int) ≤ ((N * loP F : Nat) : Int) := by lia
      rw [if_neg (fun h => h.elim (fun h => c h.1) (fun h => q h.2))]
      exact s_ret (by simp only [Option.bind_some, Option.map_some, lget_zero, lget_succ, List.set_cons_zero, List.set_cons_succ, q_m_cst, q_m_loc, q_m_bin, q_m_cmp, q_m_and, q_m_ite, t_bool, guard_t, ifB_t, ifB_f, o_add, o_sub, o_mul, o_pow, c_lt, c_ge, v_bool, decide_true, decide_false, c2, pg, p10l, mN, mulc, q'])
theorem dp_bound (h1 : N < 2 ^ 360) (h2 : U < 2 ^ 360) : -361 ≤ dpI N U ∧ dpI N U ≤ 361 := by
  have l1 := dLen_le h1 (by decide)
  have l2 := dLen_le h2 (by decide)
  unfold dpI
  split <;> lia
theorem pl_bound {ev : Bool} (h1 : N < 2 ^ 360) (h2 : U < 2 ^ 360) : -361 ≤ plI N A U ev ∧ plI N A U ev ≤ 362 := by
  have := dp_bound h1 h2
  unfold plI
  split <;> lia
theorem r_first_place {ev : Bool} (hN : 0 < N) (hU : 0 < U) (h1 : N < 2 ^ 360) (h2 : U < 2 ^ 360) (h3 : A < 2 ^ 360) : callM prog F0 (d + 2) 316 [.int N, .int A, .int U, .bool ev] σ = some (.int (plI N A U ev), σ) := by
  have hd := r_decimal_place (d := d) (σ := σ) hN hU h1 h2
  obtain ⟨B1, B2⟩ := dp_bound h1 h2
  refine run_eq (o := .ret (.int (plI N A U ev)) σ) (Λ := [some (.int N), some (.int A), some (.int U), some (.bool ev), none, none, none]) (f := p_first_place) rfl rfl rfl ?_
  refine s_set (x := .int (dpI N U)) (σ₁ := σ) (by simp only [Option.bind_some, Option.map_some, lget_zero, lget_succ, q_m_loc, q_m_call, q_l_nil, q_l_cons, hd]) ?_
  have pe : plI N A U ev = if U * hiP (dpI N U) < (N + A) * loP (dpI N U) ∨ (ev = true ∧ (N + A) * loP (dpI N U) = U * hiP (dpI N U)) then dpI N U + 1 else dpI N U := rfl
  rw [pe]
  generalize dpI N U = F at *
  refine s_set (x := .int ((N + A : Nat) : Int)) (σ₁ := σ) (by simp only [Option.bind_some, Option.map_some, lget_zero, lget_succ, List.set_cons_zero, List.set_cons_succ, q_m_loc, q_m_bin, o_add, addc]) ?_
  have hNA : N + A < 2 ^ 361 := by
    have : 2 ^ 361 = 2 ^ 360 + 2 ^ 360 := by rw [Nat.pow_succ, Nat.mul_two]
    lia
  have mU : mulG (U : Int) ((hiP F : Nat) : Int) = true := mulG_nat (lt9 h2 (by decide)) (lt9 (hiP_lt (k := 361) B2) (by decide))
  have mN : mulG ((N + A : Nat) : Int) ((loP F : Nat) : Int) = true := mulG_nat (lt9 hNA (by decide)) (lt9 (loP_lt (k := 361) B1) (by decide))
  have fin : ∀ Λ : Lo, Λ = [some (.int N), some (.int A), some (.int U), some (.bool ev), some (.int F), some (.int (((N + A) * loP F : Nat) : Int)), some (.int ((U * hiP F : Nat) : Int))] →
      execB (callM prog F0 (d + 1)) F0 (dropB 3 p_first_place.body) Λ σ = some (.ret (.int (if U * hiP F < (N + A) * loP F ∨ (ev = true ∧ (N + A) * loP F = U * hiP F) then F + 1 else F)) σ) := fun Λ hΛ => by
    subst hΛ
    generalize (N + A) * loP F = E
    generalize U * hiP F = L
    refine s_ret ?_
    by_cases c : L < E
    · rw [if_pos (.inl c)]
      have c' : (L : Int) < (E : Int) := by lia
      simp only [Option.bind_some, Option.map_some, lget_zero, lget_succ, q_m_cst, q_m_loc, q_m_bin, q_m_cmp, q_m_and, q_m_or, q_m_ite, t_bool, ifB_t, o_add, c_gt, c_eq, v_bool, decide_true, c']
    · have c' : ¬ (L : Int) < (E : Int) := by lia
      cases ev with
      | false =>
        rw [if_neg (fun h => h.elim c (fun h => by cases h.1))]
        simp only [Option.bind_some, Option.map_some, lget_zero, lget_succ, q_m_cst, q_m_loc, q_m_bin, q_m_cmp, q_m_and, q_m_or, q_m_ite, t_bool, ifB_f, o_add, c_gt, c_eq, v_bool, decide_false, c']
      | true =>
        by_cases q : E = L
        · rw [if_pos (.inr ⟨rfl, q⟩)]
          have q' : (E : Int) = (L : Int) := by lia
          have c2 : ¬ (L : Int) < (L : Int) := by lia
          simp only [Option.bind_some, Option.map_some, lget_zero, lget_succ, q_m_cst, q_m_loc, q_m_bin, q_m_cmp, q_m_and, q_m_or, q_m_ite, t_bool, ifB_t, ifB_f, o_add, c_gt, c_eq, v_bool, decide_true, decide_false, c', q', c2]
        · rw [if_neg (fun h => h.elim c (fun h => q h.2))]
          have q' : ¬ (E : Int) = (L : Int) := by lia
          simp only [Option.bind_some, Option.map_some, lget_zero, lget_succ, q_m_cst, q_m_loc, q_m_bin, q_m_cmp, q_m_and, q_m_or, q_m_ite, t_bool, ifB_t, ifB_f, o_add, c_gt, c_eq, v_bool, decide_false, c', q']
  by_cases c : 0 ≤ F
  · have pg := powG10 c (by lia)
    have l1 : loP F = 1 := by unfold loP; rw [show (-F).toNat = 0 by lia, Nat.pow_zero]
    refine s_if_t (x := .bool true) (σ₁ := σ) (by simp only [Option.bind_some, Option.map_some, lget_zero, lget_succ, List.set_cons_zero, List.set_cons_succ, q_m_cst, q_m_loc, q_m_cmp, c_ge, decide_true, c]) rfl (s_set (x := .int ((U * hiP F : Nat) : Int)) (σ₁ := σ) (by simp only [Option.bind_some, Option.map_some, lget_zero, lget_succ, List.set_cons_zero, List.set_cons_succ, q_m_cst, q_m_loc, q_m_bin, guard_t, o_mul, o_pow, pg, p10c, mU, mulc]) s_nil) (fin _ ?_)
    rw [l1, Nat.mul_one]; rfl
  · have pg := powG10 (e := 0 - F) (by lia) (by lia)
    have l1 : hiP F = 1 := by unfold hiP; rw [show F.toNat = 0 by lia, Nat.pow_zero]
    refine s_if_f (x := .bool false) (σ₁ := σ) (by simp only [Option.bind_some, Option.map_some, lget_zero, lget_succ, List.set_cons_zero, List.set_cons_succ, q_m_cst, q_m_loc, q_m_cmp, c_ge, decide_false, c]) rfl (s_swap (vs := [.int (((N + A) * loP F : Nat) : Int), .int U]) (σ₁ := σ) (by simp only [Option.bind_some, Option.map_some, lget_zero, lget_succ, List.set_cons_zero, List.set_cons_succ, q_m_cst, q_m_loc, q_m_bin, q_m_tup, q_l_nil, q_l_cons, guard_t, o_sub, o_mul, o_pow, pg, p10l, mN, mulc]) rfl rfl s_nil) (fin _ ?_)
    rw [l1, Nat.mul_one]; rfl
/-! ## the loop of «shortest» -/
theorem r_last {fg r : Nat} {lo hi : Bool} (hU : U < 2 ^ 8000) (hr : r < U) : callM prog F0 (d + 1) 330 [.int fg, .int r, .int U, .bool lo, .bool hi] σ = some (.int ((lastF fg r U lo hi : Nat) : Int), σ) := by
  refine run_eq (o := .ret (.int ((lastF fg r U lo hi : Nat) : Int)) σ) (Λ := [some (.int fg), some (.int r), some (.int U), some (.bool lo), some (.bool hi)]) (f := p_last_figure) rfl rfl rfl ?_
  have m2 : mulG 2 (r : Int) = true := mulG_nat (a := 2) (lt9 (a := 2) (by decide) (by decide)) (lt9 (Nat.lt_trans hr hU) (by decide))
  have e2 : (2 : Int) * (r : Int) = ((2 * r : Nat) : Int) := mulc 2 r
  have g2 : divG (fg : Int) 2 = true := divG_nat (b := 2) (by decide) (lt9 (a := 2) (by decide) (by decide))
  have f2 : (fg : Int).fmod 2 = ((fg % 2 : Nat) : Int) := fmod_nat fg 2
  unfold lastF
  by_cases c : (lo && hi) = true
  · rw [if_pos c]
    obtain ⟨rfl, rfl⟩ := (Bool.and_eq_true_iff).mp c
    by_cases q : 2 * r = U
    · rw [if_pos q]
      have q' : ((2 * r : Nat) : Int) = (U : Int) := by lia
      refine s_if_rt (x := .bool true) (σ₁ := σ) (by simp only [Option.bind_some, Option.map_some, lget_zero, lget_succ, q_m_loc, q_m_and, ifB_t, v_bool]) rfl (s_if_rt (x := .bool true) (σ₁ := σ) (by simp only [Option.bind_some, Option.map_some, lget_zero, lget_succ, q_m_cst, q_m_loc, q_m_bin, q_m_cmp, guard_t, o_mul, c_eq, decide_true, m2, e2, q']) rfl (s_ret ?_))
      simp only [Option.bind_some, Option.map_some, lget_zero, q_m_cst, q_m_loc, q_m_bin, guard_t, o_add, o_mod, g2, f2, addc]
    · rw [if_neg q]
      have q' : ¬ ((2 * r : Nat) : Int) = (U : Int) := by lia
      refine s_if_rt (x := .bool true) (σ₁ := σ) (by simp only [Option.bind_some, Option.map_some, lget_zero, lget_succ, q_m_loc, q_m_and, ifB_t, v_bool]) rfl (s_if_f (x := .bool false) (σ₁ := σ) (by simp only [Option.bind_some, Option.map_some, lget_zero, lget_succ, q_m_cst, q_m_loc, q_m_bin, q_m_cmp, guard_t, o_mul, c_eq, decide_false, m2, e2, q']) rfl s_nil (s_ret ?_))
      by_cases k : U < 2 * r
      · rw [if_pos k]
        have k' : (U : Int) < ((2 * r : Nat) : Int) := by lia
        have e : (fg : Int) + 1 = ((fg + 1 : Nat) : Int) := by lia
        simp only [Option.bind_some, Option.map_some, lget_zero, lget_succ, q_m_cst, q_m_loc, q_m_bin, q_m_cmp, q_m_bi, q_l_nil, q_l_cons, guard_t, o_add, o_mul, c_gt, decide_true, bi_intb, m2, e2, k', if_true, e]
      · rw [if_neg k]
        have k' : ¬ (U : Int) < ((2 * r : Nat) : Int) := by lia
        have e : (fg : Int) + 0 = ((fg + 0 : Nat) : Int) := by lia
        simp only [Option.bind_some, Option.map_some, lget_zero, lget_succ, q_m_cst, q_m_loc, q_m_bin, q_m_cmp, q_m_bi, q_l_nil, q_l_cons, guard_t, o_add, o_mul, c_gt, decide_false, bi_intb, m2, e2, k', if_false, e, Bool.false_eq_true]
  · rw [if_neg c]
    refine s_if_f (x := .bool false) (σ₁ := σ) (by cases lo <;> cases hi <;> first | (exact absurd rfl c) | simp only [Option.bind_some, Option.map_some, lget_zero, lget_succ, q_m_loc, q_m_and, ifB_t, ifB_f, v_bool]) rfl s_nil (s_ret ?_)
    cases hi with
    | true =>
      have e : (fg : Int) + 1 = ((fg + 1 : Nat) : Int) := by lia
      simp only [Option.bind_some, Option.map_some, lget_zero, lget_succ, q_m_loc, q_m_bin, q_m_bi, q_l_nil, q_l_cons, o_add, bi_intb, if_true, e]
    | false =>
      have e : (fg : Int) + 0 = ((fg + 0 : Nat) : Int) := by lia
      simp only [Option.bind_some, Option.map_some, lget_zero, lget_succ, q_m_loc, q_m_bin, q_m_bi, q_l_nil, q_l_cons, o_add, bi_intb, if_false, e, Bool.false_eq_true]
end
end Mine
namespace Mine
theorem listAt_lt {σ : St} {c : Nat} {l : List V} (h : listAt σ c = some l) : c < σ.length := (List.getElem?_eq_some_iff.mp (listAt_is h)).1
theorem listAt_set {σ : St} {c : Nat} (l : List V) (h : c < σ.length) : listAt (σ.set c (.list l)) c = some l := by
  unfold listAt
  rw [List.getElem?_set_self h]; rfl
theorem listAt_push (σ : St) (l : List V) : listAt (σ ++ [.list l]) σ.length = some l := by
  unfold listAt
  rw [List.getElem?_append_right (Nat.le_refl _), Nat.sub_self]; rfl
theorem listV_ref {σ : St} {c : Nat} {l : List V} (h : listAt σ c = some l) : listV σ (.ref c) = some l := by
  show (match σ[c]? with | some (.list l) => some l | _ => none) = _
  rw [listAt_is h]
noncomputable def figV (ds : List Nat) : List V := ds.map fun c => .str [48 + c]
noncomputable def figT (ds : List Nat) : List Nat := ds.map fun c => 48 + c
theorem strsOf_fig : ∀ ds : List Nat, strsOf (figV ds) = some (ds.map fun c => [48 + c])
  | [] => rfl
  | c :: ds => by
    show (strsOf (figV ds)).map ([48 + c] :: ·) = _
    rw [strsOf_fig ds]; rfl
theorem joinL_fig : ∀ ds : List Nat, joinL [] (ds.map fun c => [48 + c]) = figT ds
  | [] => rfl
  | [c] => rfl
  | c :: e :: ds => by
    have := joinL_fig (e :: ds)
    show [48 + c] ++ [] ++ joinL [] ((e :: ds).map fun c => [48 + c]) = _
    rw [this]; rfl
theorem joinFits_fig (ds : List Nat) (h : ds.length ≤ 900) : joinFits [] (ds.map fun c => [48 + c]) = true := by
  unfold joinFits
  have : ((ds.map fun c => [48 + c]).map (·.length)).sum = ds.length := by
    clear h
    induction ds with
    | nil => rfl
    | cons c ds ih => simp only [List.map_cons, List.sum_cons, List.length_cons, List.length_nil] at *; lia
  rw [this]
  simp; lia
section
variable {C : Nat → List V → St → Option (V × St)} {σ : St} {d N A U B : Nat} {ev : Bool}
theorem e_low {Λ : Lo} {r : Nat} (h5 : lget Λ 5 = some (.int (r : Int))) (h7 : lget Λ 7 = some (.int (B : Int))) (h4 : lget Λ 4 = some (.bool ev)) : evalM C (.or (.cmp .Lt (.loc 5) (.loc 7)) (.and (.loc 4) (.cmp .Eq (.loc 5) (.loc 7)))) Λ σ = some (.bool (lowB ev r B), σ) := by
  unfold lowB
  by_cases c : r < B
  · have c' : (r : Int) < (B : Int) := by lia
    simp only [Option.bind_some, Option.map_some, q_m_loc, q_m_cmp, q_m_and, q_m_or, ifB_t, c_lt, c_eq, v_bool, decide_true, h5, h7, h4, c, c', Bool.true_or]
  · have c' : ¬ (r : Int) < (B : Int) := by lia
    cases ev with
    | false => simp only [Option.bind_some, Option.map_some, q_m_loc, q_m_cmp, q_m_and, q_m_or, ifB_f, c_lt, c_eq, v_bool, decide_false, h5, h7, h4, c, c', Bool.false_or, Bool.false_and]
    | true =>
      have q : decide ((r : Int) = (B : Int)) = decide (r = B) := by rw [decide_eq_decide]; lia
      simp only [Option.bind_some, Option.map_some, q_m_loc, q_m_cmp, q_m_and, q_m_or, ifB_t, ifB_f, c_lt, c_eq, v_bool, decide_false, h5, h7, h4, c, c', Bool.false_or, Bool.true_and, q]
theorem e_high {Λ : Lo} {r : Nat} (h5 : lget Λ 5 = some (.int (r : Int))) (h6 : lget Λ 6 = some (.int (A : Int))) (h8 : lget Λ 8 = some (.int (U : Int))) (h4 : lget Λ 4 = some (.bool ev)) : evalM C (.or (.cmp .Gt (.bin .Add (.loc 5) (.loc 6)) (.loc 8)) (.and (.loc 4) (.cmp .Eq (.bin .Add (.loc 5) (.loc 6)) (.loc 8)))) Λ σ = some (.bool (highB ev r A U), σ) := by
  unfold highB
  by_cases c : U < r + A
  · have c' : (U : Int) < ((r + A : Nat) : Int) := by omega
    simp only [Option.bind_some, Option.map_some, q_m_loc, q_m_bin, q_m_cmp, q_m_and, q_m_or, ifB_t, o_add, c_gt, c_eq, v_bool, decide_true, h5, h6, h8, h4, addc, c, c', Bool.true_or]
  · have c' : ¬ (U : Int) < ((r + A : Nat) : Int) := by omega
    cases ev with
    | false => simp only [Option.bind_some, Option.map_some, q_m_loc, q_m_bin, q_m_cmp, q_m_and, q_m_or, ifB_f, o_add, c_gt, c_eq, v_bool, decide_false, h5, h6, h8, h4, addc, c, c', Bool.false_or, Bool.false_and]
    | true =>
      have q : decide (((r + A : Nat) : Int) = (U : Int)) = decide (r + A = U) := by rw [decide_eq_decide]; omega
      simp only [Option.bind_some, Option.map_some, q_m_loc, q_m_bin, q_m_cmp, q_m_and, q_m_or, ifB_t, ifB_f, o_add, c_gt, c_eq, v_bool, decide_false, h5, h6, h8, h4, addc, c, c', Bool.false_or, Bool.true_and, q]
theorem sh_loop (d : Nat) (P : Int) (b0 b1 b2 b3 : Option V) (c : Nat) (hU : 0 < U) (hU2 : U < 2 ^ 8000) : ∀ (j f N A B : Nat) (b10 b12 b13 b14 : Option V) (σ : St) (pre : List Nat), N + A ≤ U → (ev = true → N + A < U) → B ≤ A → U < B * 10 ^ j → j ≤ f → pre.length + j ≤ 900 → listAt σ c = some (figV pre) →
    whileM (evalM (callM prog F0 (d + 1)) lc_shortest_0) (execB (callM prog F0 (d + 1)) F0 lb_shortest_0) f [b0, b1, b2, b3, some (.bool ev), some (.int N), some (.int A), some (.int B), some (.int U), some (.int P), b10, some (.ref c), b12, b13, b14] σ =
      some (.ret (.tup [.str (figT (pre ++ shL j N A B U ev)), .int P]) (σ.set c (.list (figV (pre ++ shL j N A B U ev)))))
  | 0, f, N, A, B, b10, b12, b13, b14, σ, pre, h1, h2, h3, h4, hf, hl, hc => by lia
  | j + 1, 0, N, A, B, b10, b12, b13, b14, σ, pre, h1, h2, h3, h4, hf, hl, hc => by lia
  | j + 1, f + 1, N, A, B, b10, b12, b13, b14, σ, pre, h1, h2, h3, h4, hf, hl, hc => by
    obtain ⟨n1, n2, n3, n4⟩ := sh_near (j + 1) N A B U ev hU h1 h2 h3 h4
    have hclt := listAt_lt hc
    have m : ∀ x : Nat, x ≤ U → mulG (x : Int) 10 = true := fun x hx => mulG_nat (b := 10) (lt9 (Nat.lt_of_le_of_lt hx hU2) (by decide)) (lt9 (a := 4) (by decide) (by decide))
    have mN := m N (by lia)
    have mA := m A (by lia)
    have mB := m B (by lia)
    have tN : (N : Int) * 10 = ((10 * N : Nat) : Int) := by lia
    have tA : (A : Int) * 10 = ((10 * A : Nat) : Int) := by lia
    have tB : (B : Int) * 10 = ((10 * B : Nat) : Int) := by lia
    have gU : divG ((10 * N : Nat) : Int) (U : Int) = true := divG_nat hU (lt9 hU2 (by decide))
    have hr : 10 * N % U < U := Nat.mod_lt _ hU
    have hlen : (figV pre).length ≤ 1000 := by unfold figV; rw [List.length_map]; lia
    unfold shL at n1 n2 n3 ⊢
    have body : ∀ o, execB (callM prog F0 (d + 1)) F0 (dropB 5 lb_shortest_0) [b0, b1, b2, b3, some (.bool ev), some (.int ((10 * N % U : Nat) : Int)), some (.int ((10 * A : Nat) : Int)), some (.int ((10 * B : Nat) : Int)), some (.int U), some (.int P), b10, some (.ref c), some (.int ((10 * N / U : Nat) : Int)), some (.bool (lowB ev (10 * N % U) (10 * B))), some (.bool (highB ev (10 * N % U) (10 * A) U))] σ = o →
        execB (callM prog F0 (d + 1)) F0 lb_shortest_0 [b0, b1, b2, b3, some (.bool ev), some (.int N), some (.int A), some (.int B), some (.int U), some (.int P), b10, some (.ref c), b12, b13, b14] σ = o := fun o ho => by
      refine s_swap (vs := [.int ((10 * N : Nat) : Int), .int ((10 * A : Nat) : Int), .int ((10 * B : Nat) : Int)]) (σ₁ := σ) (by simp only [Option.bind_some, Option.map_some, lget_zero, lget_succ, q_m_cst, q_m_loc, q_m_bin, q_m_tup, q_l_nil, q_l_cons, guard_t, o_mul, mN, mA, mB, tN, tA, tB]) rfl rfl ?_
      refine s_set (x := .int ((10 * N / U : Nat) : Int)) (σ₁ := σ) (by simp only [Option.bind_some, Option.map_some, lget_zero, lget_succ, List.set_cons_zero, List.set_cons_succ, q_m_loc, q_m_bin, guard_t, o_fdiv, gU, fdiv_nat]) ?_
      refine s_set (x := .int ((10 * N % U : Nat) : Int)) (σ₁ := σ) (by simp only [Option.bind_some, Option.map_some, lget_zero, lget_succ, List.set_cons_zero, List.set_cons_succ, q_m_loc, q_m_bin, guard_t, o_mod, gU, fmod_nat]) ?_
      refine s_set (e_low (r := 10 * N % U) (B := 10 * B) rfl rfl rfl) ?_
      refine s_set (e_high (r := 10 * N % U) (A := 10 * A) rfl rfl rfl rfl) ?_
      exact ho
    generalize hfg : 10 * N / U = fg at *
    generalize hq : 10 * N % U = r at *
    by_cases q : (lowB ev r (10 * B) || highB ev r (10 * A) U) = true
    · rw [if_pos q] at n1 ⊢
      have r9 := n1 _ (List.mem_singleton_self _)
      have hcall := r_last (d := d) (σ := σ) (fg := fg) (r := r) (lo := lowB ev r (10 * B)) (hi := highB ev r (10 * A) U) hU2 hr
      have hst := bi_strn (σ := σ) (n := lastF fg r U (lowB ev r (10 * B)) (highB ev r (10 * A) U)) (Nat.lt_of_le_of_lt r9 (Nat.lt_of_lt_of_le (show 9 < 2 ^ 4 by decide) (Nat.pow_le_pow_right (by decide) (by decide))))
      rw [dtx_fig _ r9] at hst
      generalize lastF fg r U (lowB ev r (10 * B)) (highB ev r (10 * A) U) = z at *
      have efig : figV pre ++ [V.str [48 + z]] = figV (pre ++ [z]) := by unfold figV; rw [List.map_append]; rfl
      refine while_r (x := .bool true) (σ₁ := σ) rfl rfl (body _ ?_)
      generalize lowB ev r (10 * B) = lo at *
      generalize highB ev r (10 * A) U = hi at *
      have hor : evalM (callM prog F0 (d + 1)) (.or (.loc 13) (.loc 14)) [b0, b1, b2, b3, some (.bool ev), some (.int ((r : Nat) : Int)), some (.int ((10 * A : Nat) : Int)), some (.int ((10 * B : Nat) : Int)), some (.int U), some (.int P), b10, some (.ref c), some (.int ((fg : Nat) : Int)), some (.bool lo), some (.bool hi)] σ = some (.bool true, σ) := by
        cases lo <;> cases hi <;> first | (cases q; done) | simp only [Option.bind_some, Option.map_some, lget_zero, lget_succ, q_m_loc, q_m_or, ifB_t, ifB_f, v_bool]
      refine s_if_rt hor rfl ?_
      have la := listAt_set (figV pre ++ [V.str [48 + z]]) hclt
      have hap : evalM (callM prog F0 (d + 1)) (.append (.loc 11) (.bi 7 (.cons (.call 330 (.cons (.loc 12) (.cons (.loc 5) (.cons (.loc 8) (.cons (.loc 13) (.cons (.loc 14) .nil)))))) .nil))) [b0, b1, b2, b3, some (.bool ev), some (.int ((r : Nat) : Int)), some (.int ((10 * A : Nat) : Int)), some (.int ((10 * B : Nat) : Int)), some (.int U), some (.int P), b10, some (.ref c), some (.int ((fg : Nat) : Int)), some (.bool lo), some (.bool hi)] σ = some (.none, σ.set c (.list (figV pre ++ [V.str [48 + z]]))) := by
        simp only [Option.bind_some, Option.map_some, lget_zero, lget_succ, q_m_loc, q_m_call, q_m_bi, q_m_append, q_l_nil, q_l_cons, guard_t, v_ref, hc, hcall, hst, decide_eq_true hlen]
      rw [q_b_cons, q_s_expr, hap, Option.bind_some]
      show (guardO true _).bind _ = _
      rw [guard_t, Option.bind_some, thn_n]
      refine s_ret ?_
      rw [efig] at la
      rw [q_m_tup, q_l_cons, q_m_join, q_m_cst]
      simp only [Option.bind_some, Option.map_some, lget_zero, lget_succ, q_m_loc, q_l_nil, q_l_cons, v_str, listV_ref la, efig, strsOf_fig]
      have hl1 : (pre ++ [z]).length ≤ 900 := by rw [List.length_append, List.length_singleton]; lia
      rw [joinFits_fig _ hl1, joinL_fig]
      simp only [Option.bind_some, Option.map_some, guard_t]
    · rw [if_neg q] at n1 ⊢
      have q' := q
      simp only [Bool.not_eq_true, Bool.or_eq_false_iff] at q'
      obtain ⟨qa, qb⟩ := q'
      obtain ⟨p1, p2⟩ := high_f qb
      have r9 := n1 _ (List.mem_cons_self ..)
      have hst := bi_strn (σ := σ) (n := fg) (Nat.lt_of_le_of_lt r9 (Nat.lt_of_lt_of_le (show 9 < 2 ^ 4 by decide) (Nat.pow_le_pow_right (by decide) (by decide))))
      rw [dtx_fig _ r9] at hst
      have efig : figV pre ++ [V.str [48 + fg]] = figV (pre ++ [fg]) := by unfold figV; rw [List.map_append]; rfl
      have la := listAt_set (figV (pre ++ [fg])) hclt
      have ih := sh_loop d P b0 b1 b2 b3 c hU hU2 j f r (10 * A) (10 * B) b10 (some (.int ((fg : Nat) : Int))) (some (.bool (lowB ev r (10 * B)))) (some (.bool (highB ev r (10 * A) U))) (σ.set c (.list (figV (pre ++ [fg])))) (pre ++ [fg]) p1 p2 (by lia) (by rw [Nat.pow_succ] at h4; rw [Nat.mul_comm 10 B, Nat.mul_assoc, Nat.mul_comm 10]; exact h4) (by lia) (by rw [List.length_append, List.length_singleton]; lia) la
      rw [List.set_set, List.append_assoc] at ih
      refine (while_t (x := .bool true) (σ₁ := σ) rfl rfl (body _ ?_)).trans ih
      rw [qa, qb]
      refine s_if_f (x := .bool false) (σ₁ := σ) (by simp only [Option.bind_some, Option.map_some, lget_zero, lget_succ, q_m_loc, q_m_or, ifB_f, v_bool]) rfl s_nil ?_
      have hap : evalM (callM prog F0 (d + 1)) (.append (.loc 11) (.bi 7 (.cons (.loc 12) .nil))) [b0, b1, b2, b3, some (.bool ev), some (.int ((r : Nat) : Int)), some (.int ((10 * A : Nat) : Int)), some (.int ((10 * B : Nat) : Int)), some (.int U), some (.int P), b10, some (.ref c), some (.int ((fg : Nat) : Int)), some (.bool false), some (.bool false)] σ = some (.none, σ.set c (.list (figV (pre ++ [fg])))) := by
        simp only [Option.bind_some, Option.map_some, lget_zero, lget_succ, q_m_loc, q_m_bi, q_m_append, q_l_nil, q_l_cons, guard_t, v_ref, hc, hst, decide_eq_true hlen, efig]
      rw [q_b_cons, q_s_expr, hap, Option.bind_some]
      rfl
end
end Mine
namespace Mine
/-! ## the bits -/
noncomputable def sg (m : Bool) : Nat := if m then 1 else 0
theorem sgn_nat (m : Bool) (R : Nat) : sgn m + (R : Int) = ((sg m * 2 ^ 63 + R : Nat) : Int) := by
  cases m with
  | false =>
    show (0 : Int) + R = ((0 * 2 ^ 63 + R : Nat) : Int)
    rw [Nat.zero_mul, Nat.zero_add, Int.zero_add]
  | true =>
    show (9223372036854775808 : Int) + R = ((1 * 2 ^ 63 + R : Nat) : Int)
    rw [Int.natCast_add]; rfl
theorem hi63 {s R : Nat} (h : R < 2 ^ 63) : (s * 2 ^ 63 + R) / 2 ^ 63 = s := by
  rw [Nat.add_comm, Nat.add_mul_div_right _ _ (Nat.two_pow_pos _), Nat.div_eq_of_lt h, Nat.zero_add]
theorem lo63 {s R : Nat} (h : R < 2 ^ 63) : (s * 2 ^ 63 + R) % 2 ^ 63 = R := by
  rw [Nat.add_comm, Nat.add_mul_mod_self_right, Nat.mod_eq_of_lt h]
theorem and_mask (x k : Nat) {y : Int} (h : ((2 ^ k - 1 : Nat) : Int) = y) : Builtin.bitAnd (x : Int) y = ((x % 2 ^ k : Nat) : Int) := by
  rw [← h, and_nat, Nat.and_two_pow_sub_one_eq_mod]
theorem and63 {m : Bool} {R : Nat} (h : R < 2 ^ 63) : Builtin.bitAnd (sgn m + R) 9223372036854775807 = ((R : Nat) : Int) := by
  rw [sgn_nat, and_mask (y := 9223372036854775807) _ 63 rfl, lo63 h]
section
variable {C : Nat → List V → St → Option (V × St)} {σ : St} {d R : Nat} {m : Bool}
theorem e63 : (9223372036854775808 : Int) - 1 = 9223372036854775807 := by decide
theorem r_nan (h : R < 2 ^ 63) : callM prog F0 (d + 1) 42 [.int (sgn m + R)] σ = some (.bool (decide ((9218868437227405312 : Int) < R)), σ) := by
  refine run_eq (o := .ret (.bool (decide ((9218868437227405312 : Int) < R))) σ) (Λ := [some (.int (sgn m + R))]) (f := p_is_nan) rfl rfl rfl (s_ret ?_)
  simp only [Option.bind_some, Option.map_some, lget_zero, q_m_cst, q_m_loc, q_m_bin, q_m_cmp, o_sub, o_and, c_gt, e63, and63 h]
theorem r_inf (h : R < 2 ^ 63) : callM prog F0 (d + 1) 49 [.int (sgn m + R)] σ = some (.bool (decide ((R : Int) = 9218868437227405312)), σ) := by
  refine run_eq (o := .ret (.bool (decide ((R : Int) = 9218868437227405312))) σ) (Λ := [some (.int (sgn m + R))]) (f := p_is_inf) rfl rfl rfl (s_ret ?_)
  simp only [Option.bind_some, Option.map_some, lget_zero, q_m_cst, q_m_loc, q_m_bin, q_m_cmp, o_sub, o_and, c_eq, e63, and63 h]
theorem r_fin (h : R < 2 ^ 63) : callM prog F0 (d + 1) 56 [.int (sgn m + R)] σ = some (.bool (decide ((R : Int) < 9218868437227405312)), σ) := by
  refine run_eq (o := .ret (.bool (decide ((R : Int) < 9218868437227405312))) σ) (Λ := [some (.int (sgn m + R))]) (f := p_is_finite) rfl rfl rfl (s_ret ?_)
  simp only [Option.bind_some, Option.map_some, lget_zero, q_m_cst, q_m_loc, q_m_bin, q_m_cmp, o_sub, o_and, c_lt, e63, and63 h]
theorem r_zero (h : R < 2 ^ 63) : callM prog F0 (d + 1) 63 [.int (sgn m + R)] σ = some (.bool (decide ((R : Int) = 0)), σ) := by
  refine run_eq (o := .ret (.bool (decide ((R : Int) = 0))) σ) (Λ := [some (.int (sgn m + R))]) (f := p_is_zero) rfl rfl rfl (s_ret ?_)
  simp only [Option.bind_some, Option.map_some, lget_zero, q_m_cst, q_m_loc, q_m_bin, q_m_cmp, o_sub, o_and, c_eq, e63, and63 h]
theorem r_neg (h : R < 2 ^ 63) : callM prog F0 (d + 1) 35 [.int (sgn m + R)] σ = some (.bool m, σ) := by
  refine run_eq (o := .ret (.bool m) σ) (Λ := [some (.int (sgn m + R))]) (f := p_is_negative) rfl rfl rfl (s_ret ?_)
  have e : (sgn m + (R : Int)).fdiv (2 ^ (63 : Int).toNat) = ((sg m : Nat) : Int) := by
    rw [sgn_nat]
    have := fdiv_nat (sg m * 2 ^ 63 + R) (2 ^ 63)
    rw [hi63 h] at this
    exact this
  have h0 : (0 : Int) ≤ 63 := by decide
  have q : decide (((sg m : Nat) : Int) = 1) = m := by cases m <;> rfl
  simp only [Option.bind_some, Option.map_some, lget_zero, q_m_cst, q_m_loc, q_m_bin, q_m_cmp, guard_t, o_shr, c_eq, decide_true, e, h0, q]
end
/-! ## a double: the sign, the mantissa, the power -/
structure Dbl (M pp pm : Nat) : Prop where
  lo : 2 ^ 52 ≤ M
  hi : M < 2 ^ 53
  hp : pp ≤ 200
  hm : pm ≤ 200
  one : pp = 0 ∨ pm = 0
noncomputable def dR (M pp pm : Nat) : Nat := (pp + 1074 - pm) * 2 ^ 52 + M
theorem Dbl.lt {M pp pm : Nat} (h : Dbl M pp pm) : dR M pp pm < 1300 * 2 ^ 52 := by
  have := h.hp
  have h2 : (pp + 1074 - pm) * 2 ^ 52 ≤ 1274 * 2 ^ 52 := Nat.mul_le_mul_right _ (by omega)
  have h3 := h.hi
  have e : (1300 : Nat) * 2 ^ 52 = 1274 * 2 ^ 52 + 26 * 2 ^ 52 := by decide
  have e2 : (2 : Nat) ^ 53 ≤ 26 * 2 ^ 52 := by decide
  unfold dR
  lia
theorem Dbl.lt63 {M pp pm : Nat} (h : Dbl M pp pm) : dR M pp pm < 2 ^ 63 := Nat.lt_trans h.lt (by decide)
theorem Dbl.pos {M pp pm : Nat} (h : Dbl M pp pm) : dR M pp pm ≠ 0 := by
  have := h.lo
  have e : (0 : Nat) < 2 ^ 52 := by decide
  unfold dR
  lia
theorem Dbl.split {M pp pm : Nat} (h : Dbl M pp pm) : dR M pp pm = (pp + 1074 - pm + 1) * 2 ^ 52 + (M - 2 ^ 52) := by
  have := h.lo
  unfold dR
  rw [Nat.add_mul, Nat.one_mul]
  lia
section
variable {σ : St} {d M pp pm : Nat} {m : Bool}
theorem r_parts (h : Dbl M pp pm) : callM prog F0 (d + 1) 77 [.int (sgn m + dR M pp pm)] σ = some (.tup [.int (sg m), .int M, .int ((pp : Int) - pm)], σ) := by
  have hR := h.lt63
  have hp := h.hp
  have hm := h.hm
  have hf : M - 2 ^ 52 < 2 ^ 52 := by
    have := h.hi; have := h.lo
    have e : (2 : Nat) ^ 53 = 2 ^ 52 + 2 ^ 52 := by decide
    omega
  have a1 : (sgn m + (dR M pp pm : Int)).fdiv (2 ^ (63 : Int).toNat) = ((sg m : Nat) : Int) := by
    rw [sgn_nat]
    have := fdiv_nat (sg m * 2 ^ 63 + dR M pp pm) (2 ^ 63)
    rw [hi63 hR] at this
    exact this
  have a2 : Builtin.bitAnd ((sgn m + (dR M pp pm : Int)).fdiv (2 ^ (52 : Int).toNat)) 2047 = ((pp + 1074 - pm + 1 : Nat) : Int) := by
    rw [sgn_nat]
    have := fdiv_nat (sg m * 2 ^ 63 + dR M pp pm) (2 ^ 52)
    have e : (sg m * 2 ^ 63 + dR M pp pm) / 2 ^ 52 = sg m * 2 ^ 11 + (pp + 1074 - pm + 1) := by
      rw [h.split, show (2 : Nat) ^ 63 = 2 ^ 11 * 2 ^ 52 by decide, ← Nat.mul_assoc, ← Nat.add_assoc, ← Nat.add_mul, Nat.add_comm, Nat.add_mul_div_right _ _ (Nat.two_pow_pos _), Nat.div_eq_of_lt hf, Nat.zero_add]
    rw [e] at this
    refine (congrArg (fun x => Builtin.bitAnd x 2047) this).trans ?_
    rw [and_mask (y := 2047) _ 11 rfl, Nat.add_comm (sg m * 2 ^ 11), Nat.add_mul_mod_self_right, Nat.mod_eq_of_lt]
    have : (2 : Nat) ^ 11 = 2048 := by decide
    lia
  have a3 : Builtin.bitAnd (sgn m + (dR M pp pm : Int)) 4503599627370495 = ((M - 2 ^ 52 : Nat) : Int) := by
    rw [sgn_nat, and_mask (y := 4503599627370495) _ 52 rfl, h.split, show (2 : Nat) ^ 63 = 2 ^ 11 * 2 ^ 52 by decide, ← Nat.mul_assoc, ← Nat.add_assoc, ← Nat.add_mul, Nat.add_comm, Nat.add_mul_mod_self_right, Nat.mod_eq_of_lt hf]
  have a4 : Builtin.bitOr ((M - 2 ^ 52 : Nat) : Int) 4503599627370496 = ((M : Nat) : Int) := by
    have := or_nat (M - 2 ^ 52) (1 * 2 ^ 52)
    rw [Nat.or_comm, or_low hf, Nat.one_mul, Nat.add_comm (2 ^ 52), Nat.sub_add_cancel h.lo] at this
    exact this
  have h0 : (0 : Int) ≤ 63 := by decide
  have h1 : (0 : Int) ≤ 52 := by decide
  refine run_eq (o := .ret (.tup [.int (sg m), .int M, .int ((pp : Int) - pm)]) σ) (Λ := [some (.int (sgn m + dR M pp pm)), none, none, none]) (f := p_parts) rfl rfl rfl ?_
  refine s_swap (vs := [.int (sg m), .int ((pp + 1074 - pm + 1 : Nat) : Int), .int ((M - 2 ^ 52 : Nat) : Int)]) (σ₁ := σ) (by simp only [Option.bind_some, Option.map_some, lget_zero, q_m_cst, q_m_loc, q_m_bin, q_m_tup, q_l_nil, q_l_cons, guard_t, o_shr, o_and, decide_true, a1, a2, a3, h0, h1]) rfl rfl ?_
  have c : ¬ (((pp + 1074 - pm + 1 : Nat) : Int) = 0) := by lia
  refine s_if_f (x := .bool false) (σ₁ := σ) (by simp only [Option.bind_some, Option.map_some, lget_zero, lget_succ, List.set_cons_zero, List.set_cons_succ, q_m_cst, q_m_loc, q_m_cmp, c_eq, decide_false, c]) rfl s_nil (s_ret ?_)
  have e : ((pp + 1074 - pm + 1 : Nat) : Int) - 1075 = (pp : Int) - pm := by lia
  simp only [Option.bind_some, Option.map_some, lget_zero, lget_succ, List.set_cons_zero, List.set_cons_succ, q_m_cst, q_m_loc, q_m_bin, q_m_tup, q_l_nil, q_l_cons, o_sub, o_or, a4, e]
theorem shl_cast (a n : Nat) {p : Int} (h : p = n) : (a : Int) * 2 ^ p.toNat = ((a * 2 ^ n : Nat) : Int) := by rw [h, Int.toNat_natCast, mul2_cast]
theorem r_scaled (h : Dbl M pp pm) : callM prog F0 (d + 1) 302 [.int M, .int ((pp : Int) - pm)] σ = some (.tup [.int (sN M pp), .int (sA M pp), .int (sB pp), .int (sU M pm)], σ) := by
  refine run_eq (o := .ret (.tup [.int (sN M pp), .int (sA M pp), .int (sB pp), .int (sU M pm)]) σ) (Λ := [some (.int M), some (.int ((pp : Int) - pm)), none, none, none]) (f := p_scaled) rfl rfl rfl ?_
  have hp := h.hp
  have hm := h.hm
  have c0 : (-1074 : Int) < (pp : Int) - pm := by lia
  have hfac : fac M < 2 ^ 3 := by unfold fac; split <;> decide
  have habv : abv M < 2 ^ 3 := by unfold abv; split <;> decide
  have mMf : mulG (M : Int) (fac M : Int) = true := mulG_nat (lt9 h.hi (by decide)) (lt9 hfac (by decide))
  have hMf := mul_lt2 h.hi hfac
  have fin : ∀ Λ : Lo, Λ = [some (.int M), some (.int ((pp : Int) - pm)), some (.bool (decide (M = 2 ^ 52))), some (.int (fac M)), some (.int (abv M))] → execB (callM prog F0 d) F0 (dropB 3 p_scaled.body) Λ σ = some (.ret (.tup [.int (sN M pp), .int (sA M pp), .int (sB pp), .int (sU M pm)]) σ) := fun Λ hΛ => by
    subst hΛ
    by_cases c : 0 ≤ (pp : Int) - pm
    · have e : pm = 0 := by have := h.one; lia
      subst e
      have ep : (pp : Int) - ((0 : Nat) : Int) = (pp : Int) := by lia
      have s1 : shlG ((M * fac M : Nat) : Int) (pp : Int) = true := shlG_nat (lt9 hMf (by decide)) (by lia)
      have s2 : shlG ((abv M : Nat) : Int) (pp : Int) = true := shlG_nat (lt9 habv (by decide)) (by lia)
      have s3 : shlG 1 (pp : Int) = true := shlG_nat (a := 1) (lt9 (a := 2) (by decide) (by decide)) (by lia)
      have v1 := shl_cast (M * fac M) pp (p := (pp : Int)) rfl
      have v2 := shl_cast (abv M) pp (p := (pp : Int)) rfl
      have v3 : (1 : Int) * 2 ^ ((pp : Nat) : Int).toNat = ((sB pp : Nat) : Int) := by
        have := shl_cast 1 pp (p := (pp : Int)) rfl
        rw [Nat.one_mul] at this
        exact this
      have v4 : ((sU M 0 : Nat) : Int) = ((fac M : Nat) : Int) := by unfold sU; rw [Nat.pow_zero, Nat.mul_one]
      rw [ep] at c ⊢
      refine s_if_rt (x := .bool true) (σ₁ := σ) (by simp only [Option.bind_some, Option.map_some, lget_zero, lget_succ, q_m_cst, q_m_loc, q_m_cmp, c_ge, decide_true, c]) rfl (s_ret ?_)
      rw [v4]
      simp only [Option.bind_some, Option.map_some, lget_zero, lget_succ, q_m_cst, q_m_loc, q_m_bin, q_m_tup, q_l_nil, q_l_cons, guard_t, o_mul, o_shl, mMf, mulc, s1, s2, s3, v1, v2, v3]
      rfl
    · have e : pp = 0 := by have := h.one; lia
      subst e
      have ep : (0 : Int) - (((0 : Nat) : Int) - (pm : Int)) = (pm : Int) := by lia
      have s1 : shlG ((fac M : Nat) : Int) (pm : Int) = true := shlG_nat (lt9 hfac (by decide)) (by lia)
      have v1 := shl_cast (fac M) pm (p := (pm : Int)) rfl
      refine s_if_f (x := .bool false) (σ₁ := σ) (by simp only [Option.bind_some, Option.map_some, lget_zero, lget_succ, q_m_cst, q_m_loc, q_m_cmp, c_ge, decide_false, c]) rfl s_nil (s_ret ?_)
      have w1 : ((sN M 0 : Nat) : Int) = ((M * fac M : Nat) : Int) := by unfold sN; rw [Nat.pow_zero, Nat.mul_one]
      have w2 : ((sA M 0 : Nat) : Int) = ((abv M : Nat) : Int) := by unfold sA; rw [Nat.pow_zero, Nat.mul_one]
      have w3 : ((sB 0 : Nat) : Int) = 1 := rfl
      rw [w1, w2, w3]
      simp only [Option.bind_some, Option.map_some, lget_zero, lget_succ, q_m_cst, q_m_loc, q_m_bin, q_m_tup, q_l_nil, q_l_cons, guard_t, o_sub, o_mul, o_shl, mMf, mulc, ep, s1, v1]
      rfl
  by_cases e : M = 2 ^ 52
  · have e' : ((M : Nat) : Int) = 4503599627370496 := by rw [e]; rfl
    have f4 : fac M = 4 := by unfold fac; rw [if_pos e]
    have a2 : abv M = 2 := by unfold abv; rw [if_pos e]
    refine s_set (x := .bool true) (σ₁ := σ) (by simp only [Option.bind_some, Option.map_some, lget_zero, lget_succ, q_m_cst, q_m_loc, q_m_cmp, q_m_and, ifB_t, c_gt, c_eq, v_bool, decide_true, e', c0]) (s_set (x := .int 4) (σ₁ := σ) (by simp only [Option.bind_some, Option.map_some, lget_zero, lget_succ, List.set_cons_zero, List.set_cons_succ, q_m_cst, q_m_loc, q_m_ite, t_bool, ifB_t]) (s_set (x := .int 2) (σ₁ := σ) (by simp only [Option.bind_some, Option.map_some, lget_zero, lget_succ, List.set_cons_zero, List.set_cons_succ, q_m_cst, q_m_loc, q_m_ite, t_bool, ifB_t]) (fin _ ?_)))
    rw [f4, a2, decide_eq_true e]; rfl
  · have e' : ¬ ((M : Nat) : Int) = 4503599627370496 := by
      have : (2 : Nat) ^ 52 = 4503599627370496 := by decide
      lia
    have f4 : fac M = 2 := by unfold fac; rw [if_neg e]
    have a2 : abv M = 1 := by unfold abv; rw [if_neg e]
    refine s_set (x := .bool false) (σ₁ := σ) (by simp only [Option.bind_some, Option.map_some, lget_zero, lget_succ, q_m_cst, q_m_loc, q_m_cmp, q_m_and, ifB_f, c_gt, c_eq, v_bool, decide_false, e']) (s_set (x := .int 2) (σ₁ := σ) (by simp only [Option.bind_some, Option.map_some, lget_zero, lget_succ, List.set_cons_zero, List.set_cons_succ, q_m_cst, q_m_loc, q_m_ite, t_bool, ifB_f]) (s_set (x := .int 1) (σ₁ := σ) (by simp only [Option.bind_some, Option.map_some, lget_zero, lget_succ, List.set_cons_zero, List.set_cons_succ, q_m_cst, q_m_loc, q_m_ite, t_bool, ifB_f]) (fin _ ?_)))
    rw [f4, a2, decide_eq_false e]; rfl
theorem r_shortest (h : Dbl M pp pm) : callM prog F0 (d + 3) 323 [.int (sgn m + dR M pp pm)] σ = some (.tup [.str (figT (sD M pp pm)), .int (sP M pp pm)], σ ++ [.list (figV (sD M pp pm))]) := by
  have hp := h.hp
  have hm := h.hm
  have hfac : fac M < 2 ^ 3 := by unfold fac; split <;> decide
  have habv : abv M < 2 ^ 3 := by unfold abv; split <;> decide
  have hpp : 2 ^ pp < 2 ^ 201 := Nat.pow_lt_pow_right (by decide) (by lia)
  have hpm : 2 ^ pm < 2 ^ 201 := Nat.pow_lt_pow_right (by decide) (by lia)
  have up : ∀ {x a : Nat}, x < 2 ^ a → a ≤ 360 → x < 2 ^ 360 := fun h h2 => Nat.lt_of_lt_of_le h (Nat.pow_le_pow_right (by decide) h2)
  have hN : sN M pp < 2 ^ 360 := up (mul_lt2 (mul_lt2 h.hi hfac) hpp) (by decide)
  have hA : sA M pp < 2 ^ 360 := up (mul_lt2 habv hpp) (by decide)
  have hB : sB pp < 2 ^ 360 := up hpp (by decide)
  have hU : sU M pm < 2 ^ 360 := up (mul_lt2 hfac hpm) (by decide)
  have hN0 : 0 < sN M pp := Nat.mul_pos (Nat.mul_pos (Nat.lt_of_lt_of_le (Nat.two_pow_pos _) h.lo) (fac_pos M)) (Nat.two_pow_pos _)
  have hU0 : 0 < sU M pm := Nat.mul_pos (fac_pos M) (Nat.two_pow_pos _)
  have bP := pl_bound (A := sA M pp) (ev := evn M) hN hU
  change -361 ≤ sP M pp pm ∧ sP M pp pm ≤ 362 at bP
  obtain ⟨b1, b2⟩ := bP
  have hfp := r_first_place (d := d) (σ := σ) (ev := evn M) hN0 hU0 hN hU hA
  change _ = some (V.int (sP M pp pm), σ) at hfp
  obtain ⟨⟨k1, k2, k3, k4, k5⟩, first⟩ := sh_start (pp := pp) (pm := pm) h.lo h.hi
  have hU1 : sU M pm * hiP (sP M pp pm) < 2 ^ 8000 := Nat.lt_of_lt_of_le (mul_lt2 hU (hiP_lt (k := 362) b2)) (Nat.pow_le_pow_right (by decide) (by decide))
  have hdd : sD M pp pm = shL 20 (sN M pp * loP (sP M pp pm)) (sA M pp * loP (sP M pp pm)) (sB pp * loP (sP M pp pm)) (sU M pm * hiP (sP M pp pm)) (evn M) := rfl
  have lp : ∀ b10, whileM (evalM (callM prog F0 (d + 2)) lc_shortest_0) (execB (callM prog F0 (d + 2)) F0 lb_shortest_0) F0 [some (.int (sgn m + dR M pp pm)), some (.int (sg m)), some (.int M), some (.int ((pp : Int) - pm)), some (.bool (evn M)), some (.int ((sN M pp * loP (sP M pp pm) : Nat) : Int)), some (.int ((sA M pp * loP (sP M pp pm) : Nat) : Int)), some (.int ((sB pp * loP (sP M pp pm) : Nat) : Int)), some (.int ((sU M pm * hiP (sP M pp pm) : Nat) : Int)), some (.int (sP M pp pm)), b10, some (.ref σ.length), none, none, none] (σ ++ [.list []]) =
      some (.ret (.tup [.str (figT (sD M pp pm)), .int (sP M pp pm)]) (σ ++ [.list (figV (sD M pp pm))])) := fun b10 => by
    have := sh_loop (d + 1) (sP M pp pm) (some (.int (sgn m + dR M pp pm))) (some (.int (sg m))) (some (.int M)) (some (.int ((pp : Int) - pm))) σ.length k1 hU1 20 F0 _ _ _ b10 none none none (σ ++ [.list []]) [] k2 k3 k4 k5 (by decide) (by decide) (listAt_push σ [])
    rw [List.nil_append, ← hdd] at this
    refine this.trans ?_
    have e : (σ ++ [Cell.list []]).set σ.length (.list (figV (sD M pp pm))) = σ ++ [.list (figV (sD M pp pm))] := by
      rw [List.set_append_right _ _ (Nat.le_refl _), Nat.sub_self]; rfl
    rw [e]
  refine run_eq (d := d + 2) (a := 323) (args := [.int (sgn m + dR M pp pm)]) (o := .ret (.tup [.str (figT (sD M pp pm)), .int (sP M pp pm)]) (σ ++ [.list (figV (sD M pp pm))])) (Λ := [some (.int (sgn m + dR M pp pm)), none, none, none, none, none, none, none, none, none, none, none, none, none, none]) (f := p_shortest) rfl rfl rfl ?_
  refine s_tset (vs := [.int (sg m), .int M, .int ((pp : Int) - pm)]) (σ₁ := σ) (by simp only [Option.bind_some, Option.map_some, lget_zero, q_m_loc, q_m_call, q_l_nil, q_l_cons, r_parts h]) rfl ?_
  have f2 : (M : Int).fmod 2 = ((M % 2 : Nat) : Int) := fmod_nat M 2
  have g2 : divG (M : Int) 2 = true := divG_nat (b := 2) (by decide) (lt9 (a := 2) (by decide) (by decide))
  have ee : decide (((M % 2 : Nat) : Int) = 0) = evn M := by unfold evn; rw [decide_eq_decide]; lia
  refine s_set (x := .bool (evn M)) (σ₁ := σ) (by simp only [Option.bind_some, Option.map_some, lget_zero, lget_succ, List.set_cons_zero, List.set_cons_succ, q_m_cst, q_m_loc, q_m_bin, q_m_cmp, guard_t, o_mod, c_eq, g2, f2, ee]) ?_
  refine s_tset (vs := [.int (sN M pp), .int (sA M pp), .int (sB pp), .int (sU M pm)]) (σ₁ := σ) (by simp only [Option.bind_some, Option.map_some, lget_zero, lget_succ, List.set_cons_zero, List.set_cons_succ, q_m_loc, q_m_call, q_l_nil, q_l_cons, r_scaled h]) rfl ?_
  refine s_set (x := .int (sP M pp pm)) (σ₁ := σ) (by simp only [Option.bind_some, Option.map_some, lget_zero, lget_succ, List.set_cons_zero, List.set_cons_succ, q_m_loc, q_m_call, q_l_nil, q_l_cons, hfp]) ?_
  by_cases c : 0 ≤ sP M pp pm
  · have pg := powG10 c (by lia)
    have l1 : loP (sP M pp pm) = 1 := by unfold loP; rw [show (-(sP M pp pm)).toNat = 0 by lia, Nat.pow_zero]
    have mU : mulG (sU M pm : Int) ((hiP (sP M pp pm) : Nat) : Int) = true := mulG_nat (lt9 hU (by decide)) (lt9 (hiP_lt (k := 362) b2) (by decide))
    refine s_if_t (x := .bool true) (σ₁ := σ) (by simp only [Option.bind_some, Option.map_some, lget_zero, lget_succ, List.set_cons_zero, List.set_cons_succ, q_m_cst, q_m_loc, q_m_cmp, c_ge, decide_true, c]) rfl (s_set (x := .int ((sU M pm * hiP (sP M pp pm) : Nat) : Int)) (σ₁ := σ) (by simp only [Option.bind_some, Option.map_some, lget_zero, lget_succ, List.set_cons_zero, List.set_cons_succ, q_m_cst, q_m_loc, q_m_bin, guard_t, o_mul, o_pow, pg, p10c, mU, mulc]) s_nil) ?_
    refine s_set (x := .ref σ.length) (σ₁ := σ ++ [.list []]) rfl (s_loopr ?_)
    have lp := lp none
    rw [l1, Nat.mul_one, Nat.mul_one, Nat.mul_one] at lp
    exact lp
  · have pg := powG10 (e := 0 - sP M pp pm) (by lia) (by lia)
    have l1 : hiP (sP M pp pm) = 1 := by unfold hiP; rw [show (sP M pp pm).toNat = 0 by lia, Nat.pow_zero]
    have ml : ∀ x : Nat, x < 2 ^ 360 → mulG (x : Int) ((loP (sP M pp pm) : Nat) : Int) = true := fun x hx => mulG_nat (lt9 hx (by decide)) (lt9 (loP_lt (k := 361) b1) (by decide))
    refine s_if_f (x := .bool false) (σ₁ := σ) (by simp only [Option.bind_some, Option.map_some, lget_zero, lget_succ, List.set_cons_zero, List.set_cons_succ, q_m_cst, q_m_loc, q_m_cmp, c_ge, decide_false, c]) rfl (s_set (x := .int ((loP (sP M pp pm) : Nat) : Int)) (σ₁ := σ) (by simp only [Option.bind_some, Option.map_some, lget_zero, lget_succ, List.set_cons_zero, List.set_cons_succ, q_m_cst, q_m_loc, q_m_bin, guard_t, o_sub, o_pow, pg, p10l]) (s_swap (vs := [.int ((sN M pp * loP (sP M pp pm) : Nat) : Int), .int ((sA M pp * loP (sP M pp pm) : Nat) : Int), .int ((sB pp * loP (sP M pp pm) : Nat) : Int)]) (σ₁ := σ) (by simp only [Option.bind_some, Option.map_some, lget_zero, lget_succ, List.set_cons_zero, List.set_cons_succ, q_m_loc, q_m_bin, q_m_tup, q_l_nil, q_l_cons, guard_t, o_mul, ml _ hN, ml _ hA, ml _ hB, mulc]) rfl rfl s_nil)) ?_
    refine s_set (x := .ref σ.length) (σ₁ := σ ++ [.list []]) rfl (s_loopr ?_)
    have lp := lp (some (.int ((loP (sP M pp pm) : Nat) : Int)))
    rw [l1, Nat.mul_one] at lp
    exact lp
end
end Mine
namespace Mine
/-! ## a double as text -/
noncomputable def sexp (e : Int) : List Nat := [101] ++ (if e < 0 then [45] else [43]) ++ dtx e.natAbs
noncomputable def wexp (ds : List Nat) (e : Int) : List Nat := ds.take 1 ++ (if 1 < ds.length then [46] ++ ds.drop 1 else []) ++ sexp e
noncomputable def lay (ds : List Nat) (P : Int) : List Nat :=
  if (ds.length : Int) ≤ P ∧ P ≤ 21 then ds ++ List.replicate (P - ds.length).toNat 48
  else if 0 < P ∧ P ≤ 21 then ds.take P.toNat ++ [46] ++ ds.drop P.toNat
  else if -6 < P ∧ P ≤ 0 then [48, 46] ++ List.replicate (0 - P).toNat 48 ++ ds
  else wexp ds (P - 1)
theorem flat1 (n c : Nat) : (List.replicate n [c]).flatten = List.replicate n c := by
  induction n with
  | zero => rfl
  | succ n ih => rw [List.replicate_succ, List.flatten_cons, ih]; rfl
section
variable {σ : St} {d : Nat} {ds : List Nat}
theorem sl_lo {a : Int} {l : List Nat} (h0 : 0 ≤ a) (hl : l.length ≤ 1000) : sliceV (.str l) (some a) none = some (.str (l.drop a.toNat)) := by
  show guardO (decide (0 ≤ a) && true && decide (l.length ≤ 1000)) (some (V.str (l.drop a.toNat))) = _
  rw [decide_eq_true h0, decide_eq_true hl]; rfl
theorem sl_hi {a : Int} {l : List Nat} (h0 : 0 ≤ a) (hl : l.length ≤ 1000) : sliceV (.str l) none (some a) = some (.str (l.take a.toNat)) := by
  show guardO (true && decide (0 ≤ a) && decide (l.length ≤ 1000)) (some (V.str (l.take a.toNat))) = _
  rw [decide_eq_true h0, decide_eq_true hl]; rfl
theorem sl_both {a b : Int} {l : List Nat} (h0 : 0 ≤ a) (h1 : 0 ≤ b) (hl : l.length ≤ 1000) : sliceV (.str l) (some a) (some b) = some (.str ((l.take b.toNat).drop a.toNat)) := by
  show guardO (decide (0 ≤ a) && decide (0 ≤ b) && decide (l.length ≤ 1000)) (some (V.str ((l.take b.toNat).drop a.toNat))) = _
  rw [decide_eq_true h0, decide_eq_true h1, decide_eq_true hl]; rfl
theorem ev_adds {C : Nat → List V → St → Option (V × St)} {a b : MX} {Λ : Lo} {σ σ₁ σ₂ : St} {s t : List Nat} (h1 : evalM C a Λ σ = some (.str s, σ₁)) (h2 : evalM C b Λ σ₁ = some (.str t, σ₂)) (hl : s.length + t.length ≤ 1000000) : evalM C (.bin .Add a b) Λ σ = some (.str (s ++ t), σ₂) := by
  rw [q_m_bin, h1, Option.bind_some, h2, Option.bind_some, o_adds, decide_eq_true hl]; rfl
theorem r_sexp {e : Int} (h : e.natAbs ≤ 1000) : callM prog F0 (d + 1) 337 [.int e] σ = some (.str (sexp e), σ) := by
  refine run_eq (o := .ret (.str (sexp e)) σ) (Λ := [some (.int e)]) (f := p_signed_exponent) rfl rfl rfl (s_ret ?_)
  have hb : e.natAbs < 2 ^ 10 := Nat.lt_of_le_of_lt h (by decide)
  have hst := bi_strn (σ := σ) (n := e.natAbs) (Nat.lt_of_lt_of_le hb (Nat.pow_le_pow_right (by decide) (by decide)))
  have hl := dLen_le hb (by decide)
  have hh : evalM (callM prog F0 d) (.bi 7 (.cons (.bi 3 (.cons (.loc 0) .nil)) .nil)) [some (.int e)] σ = some (.str (dtx e.natAbs), σ) := by
    have ab : biV σ 3 [.int e] = some (.int ((e.natAbs : Nat) : Int)) := by
      rw [bi_abs]
      split
      · rw [show -e = ((e.natAbs : Nat) : Int) by omega]
      · rw [show ((e.natAbs : Nat) : Int) = e by lia]
    simp only [q_m_bi, q_l_cons, q_l_nil, q_m_loc, lget_zero, Option.map_some, Option.bind_some, ab, hst]
  unfold sexp
  refine ev_adds (ev_adds (s := [101]) rfl ?_ ?_) hh ?_
  · by_cases c : e < 0
    · rw [if_pos c]; simp only [Option.bind_some, Option.map_some, lget_zero, q_m_cst, q_m_loc, q_m_cmp, q_m_ite, t_bool, ifB_t, c_lt, decide_true, c]
    · rw [if_neg c]; simp only [Option.bind_some, Option.map_some, lget_zero, q_m_cst, q_m_loc, q_m_cmp, q_m_ite, t_bool, ifB_f, c_lt, decide_false, c]
  · split <;> simp
  · rw [dtx_len, List.length_append]
    split <;> simp only [List.length_cons, List.length_nil] <;> lia
theorem r_wexp {e : Int} (h : e.natAbs ≤ 1000) (hl : ds.length ≤ 100) : callM prog F0 (d + 2) 344 [.str ds, .int e] σ = some (.str (wexp ds e), σ) := by
  have hl' : ds.length ≤ 1000 := by lia
  refine run_eq (o := .ret (.str (wexp ds e)) σ) (Λ := [some (.str ds), some (.int e), none]) (f := p_with_exponent) rfl rfl rfl ?_
  have s1 := sl_lo (a := 1) (l := ds) (by decide) hl'
  have s2 := sl_hi (a := 1) (l := ds) (by decide) hl'
  have lse : (sexp e).length ≤ 1002 := by
    have hb : e.natAbs < 2 ^ 10 := Nat.lt_of_le_of_lt h (by decide)
    have hl := dLen_le hb (by decide)
    unfold sexp
    rw [List.length_append, List.length_append, dtx_len]
    split <;> simp only [List.length_cons, List.length_nil] <;> lia
  have t1 : (1 : Int).toNat = 1 := rfl
  rw [t1] at s1 s2
  refine s_set (x := .str (if 1 < ds.length then [46] ++ ds.drop 1 else [])) (σ₁ := σ) ?_ (s_ret ?_)
  · by_cases c : 1 < ds.length
    · have c' : (1 : Int) < (ds.length : Int) := by lia
      rw [if_pos c]
      have g : decide (0 + 1 + (ds.drop 1).length ≤ 1000000) = true := decide_eq_true (by rw [List.length_drop]; lia)
      simp only [Option.bind_some, Option.map_some, lget_zero, q_m_cst, q_m_loc, q_m_bin, q_m_cmp, q_m_ite, q_m_bi, q_m_slice, q_l_nil, q_l_cons, q_o_no, q_o_yes, t_bool, ifB_t, o_adds, c_gt, v_int, decide_true, List.length_cons, List.length_nil, List.nil_append, List.cons_append, bi_len hl', c', s1, Nat.zero_add] at g ⊢
      simp only [Option.map_some, guard_t, g]
    · have c' : ¬ (1 : Int) < (ds.length : Int) := by lia
      rw [if_neg c]
      simp only [Option.bind_some, Option.map_some, lget_zero, q_m_cst, q_m_loc, q_m_bin, q_m_cmp, q_m_ite, q_m_bi, q_m_slice, q_l_nil, q_l_cons, q_o_no, q_o_yes, t_bool, ifB_f, c_gt, v_int, decide_false, bi_len hl', c']
  · unfold wexp
    generalize hmid : (if 1 < ds.length then [46] ++ ds.drop 1 else []) = mid
    have lm : mid.length ≤ 100 := by
      rw [← hmid]; split
      · rw [List.length_append, List.length_drop]; simp only [List.length_cons, List.length_nil]; lia
      · simp
    have lt : (ds.take 1).length ≤ 1 := by rw [List.length_take]; lia
    have g1 : decide ((ds.take 1).length + mid.length ≤ 1000000) = true := decide_eq_true (by lia)
    have g2 : decide ((ds.take 1 ++ mid).length + (sexp e).length ≤ 1000000) = true := decide_eq_true (by rw [List.length_append]; lia)
    simp only [Option.bind_some, Option.map_some, lget_zero, lget_succ, List.set_cons_zero, List.set_cons_succ, q_m_cst, q_m_loc, q_m_bin, q_m_call, q_m_slice, q_l_nil, q_l_cons, q_o_no, q_o_yes, guard_t, o_adds, v_int, s2, g1, r_sexp h, g2]
theorem r_lay {P : Int} (hP : P.natAbs ≤ 900) (hl : ds.length ≤ 100) : callM prog F0 (d + 3) 351 [.str ds, .int P] σ = some (.str (lay ds P), σ) := by
  have hl' : ds.length ≤ 1000 := by lia
  refine run_eq (o := .ret (.str (lay ds P)) σ) (Λ := [some (.str ds), some (.int P), none]) (f := p_laid_out) rfl rfl rfl ?_
  refine s_set (x := .int ds.length) (σ₁ := σ) (by simp only [Option.bind_some, Option.map_some, lget_zero, q_m_loc, q_m_bi, q_l_nil, q_l_cons, bi_len hl']) ?_
  have v_lt : ∀ a b : Int, cmpV .Lt (.int a) (.int b) = some (decide (a < b)) := fun _ _ => rfl
  have v_le : ∀ a b : Int, cmpV .LtE (.int a) (.int b) = some (decide (a ≤ b)) := fun _ _ => rfl
  unfold lay
  by_cases c1 : (ds.length : Int) ≤ P ∧ P ≤ 21
  · rw [if_pos c1]
    refine s_if_rt (x := .bool true) (σ₁ := σ) (by simp only [Option.bind_some, Option.map_some, lget_zero, lget_succ, List.set_cons_zero, List.set_cons_succ, q_m_cst, q_m_loc, q_m_chain, ifB_t, decide_true, v_le, c1.1, c1.2]) rfl (s_ret ?_)
    have g1 : (decide (1 ≤ 16) && decide ((P - (ds.length : Int)).natAbs ≤ 1000)) = true := by
      rw [decide_eq_true (show (P - (ds.length : Int)).natAbs ≤ 1000 by lia)]; rfl
    have g2 : decide (ds.length + (List.replicate (P - (ds.length : Int)).toNat 48).length ≤ 1000000) = true := decide_eq_true (by rw [List.length_replicate]; omega)
    simp only [Option.bind_some, Option.map_some, lget_zero, lget_succ, List.set_cons_zero, List.set_cons_succ, q_m_cst, q_m_loc, q_m_bin, guard_t, o_sub, o_adds, o_muls, List.length_cons, List.length_nil, flat1, Nat.zero_add, g1, g2]
  · rw [if_neg c1]
    refine s_if_f (x := .bool false) (σ₁ := σ) ?_ rfl s_nil ?_
    · by_cases k : (ds.length : Int) ≤ P
      · have k2 : ¬ P ≤ 21 := fun h => c1 ⟨k, h⟩
        simp only [Option.bind_some, Option.map_some, lget_zero, lget_succ, List.set_cons_zero, List.set_cons_succ, q_m_cst, q_m_loc, q_m_chain, ifB_t, decide_true, decide_false, v_le, k, k2]
      · simp only [Option.bind_some, Option.map_some, lget_zero, lget_succ, List.set_cons_zero, List.set_cons_succ, q_m_cst, q_m_loc, q_m_chain, ifB_f, decide_false, v_le, k]
    · by_cases c2 : 0 < P ∧ P ≤ 21
      · rw [if_pos c2]
        refine s_if_rt (x := .bool true) (σ₁ := σ) (by simp only [Option.bind_some, Option.map_some, lget_zero, lget_succ, List.set_cons_zero, List.set_cons_succ, q_m_cst, q_m_loc, q_m_chain, ifB_t, decide_true, v_le, v_lt, c2.1, c2.2]) rfl (s_ret ?_)
        have s1 := sl_lo (a := P) (l := ds) (by lia) hl'
        have s2 := sl_hi (a := P) (l := ds) (by lia) hl'
        have g1 : decide ((ds.take P.toNat).length + 1 ≤ 1000000) = true := decide_eq_true (by rw [List.length_take]; omega)
        have g2 : decide ((ds.take P.toNat ++ [46]).length + (ds.drop P.toNat).length ≤ 1000000) = true := decide_eq_true (by rw [List.length_append, List.length_take, List.length_drop, List.length_singleton]; omega)
        simp only [Option.bind_some, Option.map_some, lget_zero, lget_succ, List.set_cons_zero, List.set_cons_succ, q_m_cst, q_m_loc, q_m_bin, q_m_slice, q_o_no, q_o_yes, guard_t, o_adds, v_int, List.length_cons, List.length_nil, s1, s2, Nat.zero_add, g1, g2]
      · rw [if_neg c2]
        refine s_if_f (x := .bool false) (σ₁ := σ) ?_ rfl s_nil ?_
        · by_cases k : 0 < P
          · have k2 : ¬ P ≤ 21 := fun h => c2 ⟨k, h⟩
            simp only [Option.bind_some, Option.map_some, lget_zero, lget_succ, List.set_cons_zero, List.set_cons_succ, q_m_cst, q_m_loc, q_m_chain, ifB_t, decide_true, decide_false, v_le, v_lt, k, k2]
          · simp only [Option.bind_some, Option.map_some, lget_zero, lget_succ, List.set_cons_zero, List.set_cons_succ, q_m_cst, q_m_loc, q_m_chain, ifB_f, decide_false, v_le, v_lt, k]
        · by_cases c3 : -6 < P ∧ P ≤ 0
          · rw [if_pos c3]
            refine s_if_rt (x := .bool true) (σ₁ := σ) (by simp only [Option.bind_some, Option.map_some, lget_zero, lget_succ, List.set_cons_zero, List.set_cons_succ, q_m_cst, q_m_loc, q_m_neg, q_m_chain, ifB_t, v_int, decide_true, v_le, v_lt, c3.1, c3.2]) rfl (s_ret ?_)
            have g1 : (decide (1 ≤ 16) && decide ((0 - P).natAbs ≤ 1000)) = true := by
              rw [decide_eq_true (show (0 - P).natAbs ≤ 1000 by lia)]; rfl
            refine ev_adds (ev_adds (s := [48, 46]) (t := List.replicate (0 - P).toNat 48) rfl (by simp only [Option.bind_some, Option.map_some, lget_zero, lget_succ, List.set_cons_zero, List.set_cons_succ, q_m_cst, q_m_loc, q_m_bin, guard_t, o_sub, o_muls, List.length_cons, List.length_nil, flat1, Nat.zero_add, g1]) ?_) rfl ?_
            · rw [List.length_replicate]; simp only [List.length_cons, List.length_nil]; omega
            · rw [List.length_append, List.length_replicate]; simp only [List.length_cons, List.length_nil]; omega
          · rw [if_neg c3]
            refine s_if_f (x := .bool false) (σ₁ := σ) ?_ rfl s_nil ?_
            · by_cases k : -6 < P
              · have k2 : ¬ P ≤ 0 := fun h => c3 ⟨k, h⟩
                simp only [Option.bind_some, Option.map_some, lget_zero, lget_succ, List.set_cons_zero, List.set_cons_succ, q_m_cst, q_m_loc, q_m_neg, q_m_chain, ifB_t, v_int, decide_true, decide_false, v_le, v_lt, k, k2]
              · simp only [Option.bind_some, Option.map_some, lget_zero, lget_succ, List.set_cons_zero, List.set_cons_succ, q_m_cst, q_m_loc, q_m_neg, q_m_chain, ifB_f, v_int, decide_false, v_le, v_lt, k]
            · refine s_ret ?_
              simp only [Option.bind_some, Option.map_some, lget_zero, lget_succ, List.set_cons_zero, List.set_cons_succ, q_m_cst, q_m_loc, q_m_bin, q_m_call, q_l_nil, q_l_cons, o_sub, r_wexp (d := d) (σ := σ) (ds := ds) (e := P - 1) (by lia) hl]
end
end Mine
namespace Mine
section
variable {σ : St} {d M pp pm : Nat} {m : Bool}
noncomputable def sgT (m : Bool) : List Nat := if m then [45] else []
noncomputable def shT (m : Bool) (M pp pm : Nat) : List Nat := sgT m ++ lay (figT (sD M pp pm)) (sP M pp pm)
theorem Dbl.ltI {M pp pm : Nat} (h : Dbl M pp pm) : ((dR M pp pm : Nat) : Int) < 5854679515581644800 := by
  have := h.lt
  have e : (1300 : Nat) * 2 ^ 52 = 5854679515581644800 := by decide
  lia
theorem r_without (h : Dbl M pp pm) : callM prog F0 (d + 2) 358 [.int (sgn m + dR M pp pm)] σ = some (.none, σ) := by
  have hl := h.ltI
  have c1 : ¬ ((9218868437227405312 : Int) < (dR M pp pm : Int)) := by lia
  have c2 : ¬ ((dR M pp pm : Int) = 9218868437227405312) := by lia
  refine run_eq (o := .ret .none σ) (Λ := [some (.int (sgn m + dR M pp pm))]) (f := p_without_figures) rfl rfl rfl ?_
  refine s_if_f (x := .bool false) (σ₁ := σ) (by simp only [Option.bind_some, Option.map_some, lget_zero, q_m_loc, q_m_call, q_l_nil, q_l_cons, decide_false, r_nan h.lt63, c1]) rfl s_nil ?_
  refine s_if_f (x := .bool false) (σ₁ := σ) (by simp only [Option.bind_some, Option.map_some, lget_zero, q_m_loc, q_m_call, q_l_nil, q_l_cons, decide_false, r_inf h.lt63, c2]) rfl s_nil ?_
  exact s_ret rfl
theorem r_without0 : callM prog F0 (d + 2) 358 [.int (sgn m + (0 : Nat))] σ = some (.none, σ) := by
  have c1 : ¬ ((9218868437227405312 : Int) < ((0 : Nat) : Int)) := by lia
  have c2 : ¬ (((0 : Nat) : Int) = 9218868437227405312) := by lia
  have h0 : 0 < 2 ^ 63 := by decide
  refine run_eq (o := .ret .none σ) (Λ := [some (.int (sgn m + (0 : Nat)))]) (f := p_without_figures) rfl rfl rfl ?_
  refine s_if_f (x := .bool false) (σ₁ := σ) (by simp only [Option.bind_some, Option.map_some, lget_zero, q_m_loc, q_m_call, q_l_nil, q_l_cons, decide_false, r_nan h0, c1]) rfl s_nil ?_
  refine s_if_f (x := .bool false) (σ₁ := σ) (by simp only [Option.bind_some, Option.map_some, lget_zero, q_m_loc, q_m_call, q_l_nil, q_l_cons, decide_false, r_inf h0, c2]) rfl s_nil ?_
  exact s_ret rfl
theorem fig_len (ds : List Nat) : (figT ds).length = ds.length := by unfold figT; rw [List.length_map]
theorem Dbl.sizes (h : Dbl M pp pm) : (sD M pp pm).length ≤ 20 ∧ (sP M pp pm).natAbs ≤ 400 := by
  have hp := h.hp
  have hm := h.hm
  have hfac : fac M < 2 ^ 3 := by unfold fac; split <;> decide
  have hpp : 2 ^ pp < 2 ^ 201 := Nat.pow_lt_pow_right (by decide) (by lia)
  have hpm : 2 ^ pm < 2 ^ 201 := Nat.pow_lt_pow_right (by decide) (by lia)
  have up : ∀ {x a : Nat}, x < 2 ^ a → a ≤ 360 → x < 2 ^ 360 := fun h h2 => Nat.lt_of_lt_of_le h (Nat.pow_le_pow_right (by decide) h2)
  have hN : sN M pp < 2 ^ 360 := up (mul_lt2 (mul_lt2 h.hi hfac) hpp) (by decide)
  have hU : sU M pm < 2 ^ 360 := up (mul_lt2 hfac hpm) (by decide)
  have bP := pl_bound (A := sA M pp) (ev := evn M) hN hU
  change -361 ≤ sP M pp pm ∧ sP M pp pm ≤ 362 at bP
  have hb := (sh_back h.lo h.hi (pp := pp) (pm := pm) (by lia)).2.2.1
  exact ⟨hb, by lia⟩
theorem r_show (h : Dbl M pp pm) : callM prog F0 (d + 4) 365 [.int (sgn m + dR M pp pm)] σ = some (.str (shT m M pp pm), σ ++ [.list (figV (sD M pp pm))]) := by
  obtain ⟨z1, z2⟩ := h.sizes
  have hl := h.ltI
  have c3 : ¬ ((dR M pp pm : Int) = 0) := by have := h.pos; lia
  have hlay := r_lay (d := d) (σ := σ ++ [.list (figV (sD M pp pm))]) (ds := figT (sD M pp pm)) (P := sP M pp pm) (by lia) (by rw [fig_len]; lia)
  refine run_eq (d := d + 3) (a := 365) (args := [.int (sgn m + dR M pp pm)]) (o := .ret (.str (shT m M pp pm)) (σ ++ [.list (figV (sD M pp pm))])) (Λ := [some (.int (sgn m + dR M pp pm)), none, none, none]) (f := p_show) rfl rfl rfl ?_
  refine s_set (x := .none) (σ₁ := σ) (by simp only [Option.bind_some, Option.map_some, lget_zero, q_m_loc, q_m_call, q_l_nil, q_l_cons, r_without h]) ?_
  refine s_if_f (x := .bool false) (σ₁ := σ) rfl rfl s_nil ?_
  refine s_if_f (x := .bool false) (σ₁ := σ) (by simp only [Option.bind_some, Option.map_some, lget_zero, List.set_cons_zero, List.set_cons_succ, q_m_loc, q_m_call, q_l_nil, q_l_cons, decide_false, r_zero h.lt63, c3]) rfl s_nil ?_
  refine s_tset (vs := [.str (figT (sD M pp pm)), .int (sP M pp pm)]) (σ₁ := σ ++ [.list (figV (sD M pp pm))]) (by simp only [Option.bind_some, Option.map_some, lget_zero, List.set_cons_zero, List.set_cons_succ, q_m_loc, q_m_call, q_l_nil, q_l_cons, r_shortest h]) rfl (s_ret ?_)
  refine ev_adds (s := sgT m) (σ₁ := σ ++ [.list (figV (sD M pp pm))]) ?_ (t := lay (figT (sD M pp pm)) (sP M pp pm)) ?_ ?_
  · unfold sgT
    cases m with
    | true => simp only [Option.bind_some, Option.map_some, lget_zero, List.set_cons_zero, List.set_cons_succ, q_m_cst, q_m_loc, q_m_ite, q_m_call, q_l_nil, q_l_cons, t_bool, ifB_t, r_neg (m := true) h.lt63, if_true]
    | false => simp only [Option.bind_some, Option.map_some, lget_zero, List.set_cons_zero, List.set_cons_succ, q_m_cst, q_m_loc, q_m_ite, q_m_call, q_l_nil, q_l_cons, t_bool, ifB_f, r_neg (m := false) h.lt63]; rfl
  · simp only [Option.bind_some, Option.map_some, lget_zero, lget_succ, List.set_cons_zero, List.set_cons_succ, q_m_loc, q_m_call, q_l_nil, q_l_cons, hlay]
  · have e1 : (sgT m).length ≤ 1 := by cases m <;> decide
    have e2 : (lay (figT (sD M pp pm)) (sP M pp pm)).length ≤ 2000 := by
      have hb : (sP M pp pm - 1).natAbs < 2 ^ 10 := Nat.lt_of_le_of_lt (m := 500) (by omega) (by decide)
      have hdl := dLen_le hb (by decide)
      have := fig_len (sD M pp pm)
      unfold lay
      split
      · rw [List.length_append, List.length_replicate]; lia
      · split
        · rw [List.length_append, List.length_append, List.length_take, List.length_drop, List.length_singleton]; omega
        · split
          · rw [List.length_append, List.length_append, List.length_replicate]; simp only [List.length_cons, List.length_nil]; lia
          · unfold wexp sexp
            rw [List.length_append, List.length_append, List.length_append, List.length_append, List.length_take, dtx_len]
            split <;> split <;> simp only [List.length_cons, List.length_nil, List.length_append, List.length_drop] <;> lia
    lia
theorem r_show0 : callM prog F0 (d + 3) 365 [.int (sgn m + (0 : Nat))] σ = some (.str [48], σ) := by
  have h0 : 0 < 2 ^ 63 := by decide
  have c3 : (((0 : Nat) : Int) = 0) := rfl
  refine run_eq (d := d + 2) (a := 365) (args := [.int (sgn m + (0 : Nat))]) (o := .ret (.str [48]) σ) (Λ := [some (.int (sgn m + (0 : Nat))), none, none, none]) (f := p_show) rfl rfl rfl ?_
  refine s_set (x := .none) (σ₁ := σ) (by simp only [Option.bind_some, Option.map_some, lget_zero, q_m_loc, q_m_call, q_l_nil, q_l_cons, r_without0]) ?_
  refine s_if_f (x := .bool false) (σ₁ := σ) rfl rfl s_nil ?_
  exact s_if_rt (x := .bool true) (σ₁ := σ) (r_zero (d := d + 1) (σ := σ) (m := m) h0) rfl (s_ret rfl)
theorem r_numtext {R : Nat} {t : List Nat} {σ' : St} (hR : R < 2 ^ 63) (hf : (R : Int) < 9218868437227405312) (h : callM prog F0 (d + 1) 365 [.int (sgn m + R)] σ = some (.str t, σ')) : callM prog F0 (d + 2) 385 [.int (sgn m + R)] σ = some (.str t, σ') := by
  refine run_eq (d := d + 1) (a := 385) (args := [.int (sgn m + R)]) (o := .ret (.str t) σ') (Λ := [some (.int (sgn m + R))]) (f := p_json_number_text) rfl rfl rfl (s_ret ?_)
  simp only [Option.bind_some, Option.map_some, lget_zero, q_m_cst, q_m_loc, q_m_ite, q_m_call, q_l_nil, q_l_cons, t_bool, ifB_t, decide_true, r_fin (d := d) (σ := σ) (m := m) hR, hf, h]
noncomputable def tNum : V := .str [110, 117, 109, 98, 101, 114]
theorem r_plain_text {R : Nat} {t : List Nat} {σ' : St} (hR : R < 2 ^ 63) (hf : (R : Int) < 9218868437227405312) (h : callM prog F0 (d + 1) 365 [.int (sgn m + R)] σ = some (.str t, σ')) : callM prog F0 (d + 3) 392 [.tup [tNum, .int (sgn m + R)]] σ = some (.str t, σ') := by
  have hn := r_numtext hR hf h
  refine run_eq (d := d + 2) (a := 392) (args := [.tup [tNum, .int (sgn m + R)]]) (o := .ret (.str t) σ') (Λ := [some (.tup [tNum, .int (sgn m + R)]), none, none]) (f := p_json_plain_text) rfl rfl rfl ?_
  refine s_tset (vs := [tNum, .int (sgn m + R)]) (σ₁ := σ) rfl rfl ?_
  refine s_if_f (x := .bool false) (σ₁ := σ) rfl rfl s_nil ?_
  refine s_if_rt (x := .bool true) (σ₁ := σ) rfl rfl (s_ret ?_)
  simp only [Option.bind_some, Option.map_some, lget_zero, lget_succ, List.set_cons_zero, List.set_cons_succ, q_m_loc, q_m_call, q_l_nil, q_l_cons, hn]
end
/-! ## reading a number -/
noncomputable def restOk (rest : List Nat) : Prop := ∀ c r, rest = c :: r → 10 ≤ fig c ∧ c ≠ 46 ∧ c ≠ 101 ∧ c ≠ 69
structure XIs (mk : Nat) (sgs ds : List Nat) (E : Int) : Prop where
  hk : mk = 101 ∨ mk = 69
  hs : sgs = [43] ∨ sgs = [45] ∨ sgs = []
  ne : ds ≠ []
  dg : Digs ds
  small : val 10 ds 0 ≤ 1000000000
  is : E = if sgs = [45] then -((val 10 ds 0 : Nat) : Int) else ((val 10 ds 0 : Nat) : Int)
noncomputable def XOk (x : List Nat) (E : Int) : Prop := (x = [] ∧ E = 0) ∨ ∃ mk sgs ds, x = mk :: (sgs ++ ds) ∧ XIs mk sgs ds E
theorem stops_of {rest : List Nat} (h : restOk rest) : stops rest 10 := fun c r e => (h c r e).1
theorem dig_pos {ds : List Nat} (h : ds ≠ []) : 0 < ds.length := Nat.pos_of_ne_zero fun e => h (List.length_eq_zero_iff.mp e)
theorem r_exp (d n : Nat) (l x rest : List Nat) (E : Int) (σ : St) (hl : l.length ≤ 1000) (hn : n ≤ 1000) (hd : l.drop n = x ++ rest) (hx : XOk x E) (hr : restOk rest) :
    callM prog F0 (d + 3) 147 [.str l, .int n] σ = some (.tup [.int E, .int ((n + x.length : Nat) : Int)], σ) := by
  refine run_eq (d := d + 2) (a := 147) (args := [.str l, .int n]) (o := .ret (.tup [.int E, .int ((n + x.length : Nat) : Int)]) σ) (Λ := [some (.str l), some (.int n), none, none, none, none]) (f := p_exponent_at) rfl rfl rfl ?_
  rcases hx with ⟨rfl, rfl⟩ | ⟨mk, sgs, ds, rfl, hx⟩
  · rw [List.length_nil, Nat.add_zero]
    refine s_if_rt (x := .bool true) (σ₁ := σ) ?_ rfl (s_ret (by simp only [Option.bind_some, Option.map_some, lget_zero, lget_succ, q_m_cst, q_m_loc, q_m_tup, q_l_nil, q_l_cons, Nat.add_zero]))
    cases rest with
    | nil =>
      have c : (l.length : Int) ≤ (n : Int) := by have := drop_end hd; lia
      simp only [Option.bind_some, Option.map_some, lget_zero, lget_succ, q_m_cst, q_m_loc, q_m_cmp, q_m_or, q_m_bi, q_m_item, q_l_nil, q_l_cons, ifB_t, c_ge, v_bool, decide_true, bi_len hl, c]
    | cons c r =>
      obtain ⟨h1, h2, h3⟩ := drop_at (show l.drop n = c :: r from hd)
      have c1 : ¬ (l.length : Int) ≤ (n : Int) := by lia
      obtain ⟨_, _, q1, q2⟩ := hr c r rfl
      have c2 : ¬ (c ∈ [101, 69]) := by simp [q1, q2]
      simp only [Option.bind_some, Option.map_some, lget_zero, lget_succ, q_m_cst, q_m_loc, q_m_cmp, q_m_or, q_m_bi, q_m_item, q_l_nil, q_l_cons, ifB_f, c_ge, c_nin1, v_bool, decide_false, Bool.not_false, bi_len hl, item_str h1 hl, c1, c2]
  · obtain ⟨q1, q2, q3, q4, q5, q6⟩ := hx
    obtain ⟨h1, h2, h3⟩ := drop_at (show l.drop n = mk :: (sgs ++ ds ++ rest) from hd)
    have c1 : ¬ (l.length : Int) ≤ (n : Int) := by lia
    have c2 : mk ∈ [101, 69] := by rcases q1 with rfl | rfl <;> decide
    have hds := dig_pos q3
    have hsa := r_sign_at (d + 1) (n + 1) l sgs (ds ++ rest) σ hl (by rw [h2, List.append_assoc]) (by
      rcases q2 with q2 | q2 | q2
      · exact .inl q2
      · exact .inr (.inl q2)
      · refine .inr (.inr ⟨q2, ?_⟩)
        intro c r e
        cases ds with
        | nil => exact absurd rfl q3
        | cons a ds =>
          have := q4 a (.head _)
          have : a = c := by injection e
          lia)
    have h4 : l.drop (n + 1 + sgs.length) = ds ++ rest := by rw [← List.drop_drop, h2, List.append_assoc, List.drop_left]
    have hre := r_run_end d (n + 1 + sgs.length) 10 l ds rest σ hl h4 (fun c hc => dig_fig (q4 c hc)) (stops_of hr)
    have hlen3 : n + 1 + sgs.length + ds.length ≤ l.length := by
      have := congrArg List.length h4
      rw [List.length_drop, List.length_append] at this
      omega
    have hwo := r_worth d (n + 1 + sgs.length) (n + 1 + sgs.length + ds.length) 10 l ds rest σ hl (by decide) h4 (fun c hc => dig_fig (q4 c hc)) rfl (by lia)
    refine s_if_f (x := .bool false) (σ₁ := σ) (by simp only [Option.bind_some, Option.map_some, lget_zero, lget_succ, q_m_cst, q_m_loc, q_m_cmp, q_m_or, q_m_bi, q_m_item, q_l_nil, q_l_cons, ifB_f, c_ge, c_nin1, v_bool, decide_true, decide_false, Bool.not_true, bi_len hl, item_str h1 hl, c1, c2]) rfl s_nil ?_
    have e1 : (n : Int) + 1 = ((n + 1 : Nat) : Int) := by lia
    refine s_tset (vs := [.bool (decide (sgs = [45])), .int ((n + 1 + sgs.length : Nat) : Int)]) (σ₁ := σ) (by simp only [Option.bind_some, Option.map_some, lget_zero, lget_succ, q_m_cst, q_m_loc, q_m_bin, q_m_call, q_l_nil, q_l_cons, o_add, e1, hsa]) rfl ?_
    refine s_set (x := .int ((n + 1 + sgs.length + ds.length : Nat) : Int)) (σ₁ := σ) (by
      have := hre
      simp only [Option.bind_some, Option.map_some, lget_zero, lget_succ, List.set_cons_zero, List.set_cons_succ, q_m_cst, q_m_loc, q_m_call, q_l_nil, q_l_cons]
      exact this) ?_
    have c3 : ¬ (((n + 1 + sgs.length + ds.length : Nat) : Int) = ((n + 1 + sgs.length : Nat) : Int)) := by lia
    refine s_if_f (x := .bool false) (σ₁ := σ) (by simp only [Option.bind_some, Option.map_some, lget_zero, lget_succ, List.set_cons_zero, List.set_cons_succ, q_m_loc, q_m_cmp, c_eq, decide_false, c3]) rfl s_nil ?_
    have pg := powG10 (e := 9) (by decide) (by decide)
    have p9 : (10 : Int) ^ (9 : Int).toNat = 1000000000 := by decide
    have mn : min ((val 10 ds 0 : Nat) : Int) 1000000000 = ((val 10 ds 0 : Nat) : Int) := by lia
    refine s_set (x := .int ((val 10 ds 0 : Nat) : Int)) (σ₁ := σ) (by
      have := hwo
      simp only [Option.bind_some, Option.map_some, lget_zero, lget_succ, List.set_cons_zero, List.set_cons_succ, q_m_cst, q_m_loc, q_m_bin, q_m_call, q_m_bi, q_l_nil, q_l_cons, guard_t, o_pow, pg, p9]
      rw [show callM prog F0 (d + 2) 119 [V.str l, V.int ↑(n + 1 + sgs.length), V.int ↑(n + 1 + sgs.length + ds.length), V.int 10] σ = some (V.int ↑(val 10 ds 0), σ) from this]
      simp only [Option.bind_some, Option.map_some, bi_min, mn]) (s_ret ?_)
    have el : ((n + (mk :: (sgs ++ ds)).length : Nat) : Int) = ((n + 1 + sgs.length + ds.length : Nat) : Int) := by rw [List.length_cons, List.length_append]; lia
    rw [el, q6]
    by_cases k : sgs = [45]
    · rw [if_pos k]
      have e0 : (0 : Int) - ((val 10 ds 0 : Nat) : Int) = -((val 10 ds 0 : Nat) : Int) := by lia
      have k' : decide (sgs = [45]) = true := decide_eq_true k
      simp only [Option.bind_some, Option.map_some, lget_zero, lget_succ, List.set_cons_zero, List.set_cons_succ, q_m_cst, q_m_loc, q_m_bin, q_m_ite, q_m_tup, q_l_nil, q_l_cons, t_bool, ifB_t, o_sub, k', e0]
    · rw [if_neg k]
      have k' : decide (sgs = [45]) = false := decide_eq_false k
      simp only [Option.bind_some, Option.map_some, lget_zero, lget_succ, List.set_cons_zero, List.set_cons_succ, q_m_cst, q_m_loc, q_m_bin, q_m_ite, q_m_tup, q_l_nil, q_l_cons, t_bool, ifB_f, o_sub, k']
end Mine
namespace Mine
noncomputable def ptT (p : List Nat) : List Nat := if p = [] then [] else 46 :: p
noncomputable def numT (m : Bool) (w p x : List Nat) : List Nat := sgT m ++ (w ++ (ptT p ++ x))
structure NumOk (w p x : List Nat) (E : Int) : Prop where
  hw : Digs w
  h0 : w ≠ []
  hz : ∀ r, w = 48 :: r → r = []
  hp : Digs p
  hx : XOk x E
theorem digs_fig {ds : List Nat} (h : Digs ds) : ∀ c ∈ ds, fig c < 10 := fun c hc => dig_fig (h c hc)
theorem x_stops {x rest : List Nat} {E : Int} (hx : XOk x E) (hr : restOk rest) : stops (x ++ rest) 10 ∧ ∀ c r, x ++ rest = c :: r → c ≠ 46 := by
  rcases hx with ⟨rfl, _⟩ | ⟨mk, sgs, ds, rfl, hx⟩
  · exact ⟨stops_of hr, fun c r e => (hr c r e).2.1⟩
  · refine ⟨fun c r e => ?_, fun c r e => ?_⟩
    · have e : mk = c := by injection e
      rw [← e]
      rcases hx.hk with rfl | rfl <;> decide
    · have e : mk = c := by injection e
      rw [← e]
      rcases hx.hk with rfl | rfl <;> decide
theorem drop_mid (a b c : List Nat) : (a ++ (b ++ c)).drop (a.length + b.length) = c := by
  rw [← List.drop_drop, List.drop_left, List.drop_left]
theorem cut_mid (a b c : List Nat) : ((a ++ (b ++ c)).take (a.length + b.length)).drop a.length = b := by
  rw [List.drop_take, List.drop_left, Nat.add_sub_cancel_left, List.take_left]
section
variable {σ : St} {d : Nat}
theorem r_number (m : Bool) (w p x rest : List Nat) (E : Int) (R : Nat) (h : NumOk w p x E) (hr : restOk rest) (hl : (numT m w p x ++ rest).length ≤ 1000) (hR : R < 2 ^ 63) (hf : callM prog F0 (d + 4) 126 [.str (w ++ p), .int (E - p.length)] σ = some (.int R, σ)) :
    callM prog F0 (d + 5) 204 [.str (numT m w p x ++ rest), .int 0] σ = some (.tup [.int (sgn m + R), .int (numT m w p x).length], σ) := by
  obtain ⟨k1, k2, k3, k4, k5⟩ := h
  obtain ⟨xs1, xs2⟩ := x_stops k5 hr
  have hw := dig_pos k2
  generalize hL : numT m w p x ++ rest = l at *
  have el : l = sgT m ++ (w ++ (ptT p ++ (x ++ rest))) := by rw [← hL]; unfold numT; simp only [List.append_assoc]
  have e0 : l.drop (sgT m).length = w ++ (ptT p ++ (x ++ rest)) := by rw [el, List.drop_left]
  have e1 : l.drop ((sgT m).length + w.length) = ptT p ++ (x ++ rest) := by rw [el, drop_mid]
  have e2 : l.drop ((sgT m).length + w.length + (ptT p).length) = x ++ rest := by rw [← List.drop_drop, e1, List.drop_left]
  have ln : (numT m w p x).length = (sgT m).length + w.length + (ptT p).length + x.length := by unfold numT; simp only [List.length_append]; lia
  have lt : l.length = (numT m w p x).length + rest.length := by rw [← hL, List.length_append]
  have s1 : (sgT m).length ≤ 1 := by cases m <;> decide
  have hmin : callM prog F0 (d + 4) 190 [.str l, .int 0] σ = some (.str (l.take 1), σ) := r_sign (d + 3) 0 l σ hl
  have hmin2 : decide (l.take 1 = [45]) = m := by
    rw [el]
    cases m with
    | true => rfl
    | false =>
      cases w with
      | nil => exact absurd rfl k2
      | cons a w =>
        have := k1 a (.head _)
        have : ¬ ([a] = [45]) := by intro q; injection q with q; lia
        exact decide_eq_false this
  have hst : stops (ptT p ++ (x ++ rest)) 10 := by
    unfold ptT
    split
    · exact xs1
    · intro c r e
      have e : 46 = c := by injection e
      rw [← e]; decide
  have hre := r_run_end (d + 2) (sgT m).length 10 l w (ptT p ++ (x ++ rest)) σ hl e0 (digs_fig k1) hst
  refine run_eq (d := d + 4) (a := 204) (args := [.str l, .int 0]) (o := .ret (.tup [.int (sgn m + R), .int (numT m w p x).length]) σ) (Λ := [some (.str l), some (.int 0), none, none, none, none, none, none, none, none]) (f := p_json_number) rfl rfl rfl ?_
  refine s_set (x := .bool m) (σ₁ := σ) (by simp only [Option.bind_some, Option.map_some, lget_zero, lget_succ, q_m_cst, q_m_loc, q_m_cmp, q_m_call, q_l_nil, q_l_cons, c_eqs, hmin, hmin2]) ?_
  refine s_set (x := .int (sgT m).length) (σ₁ := σ) (by cases m <;> simp only [Option.bind_some, Option.map_some, lget_zero, lget_succ, List.set_cons_zero, List.set_cons_succ, q_m_cst, q_m_loc, q_m_bin, q_m_ite, t_bool, ifB_t, ifB_f, o_add] <;> rfl) ?_
  refine s_set (x := .int (((sgT m).length + w.length : Nat) : Int)) (σ₁ := σ) (by
    simp only [Option.bind_some, Option.map_some, lget_zero, lget_succ, List.set_cons_zero, List.set_cons_succ, q_m_cst, q_m_loc, q_m_call, q_l_nil, q_l_cons]
    exact hre) ?_
  have c1 : ¬ ((((sgT m).length + w.length : Nat) : Int) = ((sgT m).length : Int)) := by lia
  refine s_if_f (x := .bool false) (σ₁ := σ) ?_ rfl s_nil ?_
  · cases w with
    | nil => exact absurd rfl k2
    | cons a w =>
      obtain ⟨h1, h2, h3⟩ := drop_at (show l.drop (sgT m).length = a :: (w ++ (ptT p ++ (x ++ rest))) from e0)
      by_cases q : a = 48
      · have wn : w = [] := k3 w (by rw [q])
        have c2 : ¬ ((((sgT m).length : Int) + 1) < (((sgT m).length + (a :: w).length : Nat) : Int)) := by rw [wn, List.length_singleton]; lia
        rw [q] at h1 c1 c2
        have ee : decide (([48] : List Nat) = [48]) = true := rfl
        simp only [List.length_cons] at c1 c2
        simp only [Option.bind_some, Option.map_some, lget_zero, lget_succ, List.set_cons_zero, List.set_cons_succ, q_m_cst, q_m_loc, q_m_bin, q_m_cmp, q_m_and, q_m_or, q_m_item, ifB_t, ifB_f, o_add, c_gt, c_eq, c_eqs, v_bool, decide_true, decide_false, List.length_cons, q, List.length_cons, c1, item_str h1 hl, ee, c2]
      · have ee : decide (([a] : List Nat) = [48]) = false := decide_eq_false (fun z => q (by injection z))
        simp only [List.length_cons] at c1
        simp only [Option.bind_some, Option.map_some, lget_zero, lget_succ, List.set_cons_zero, List.set_cons_succ, q_m_cst, q_m_loc, q_m_bin, q_m_cmp, q_m_and, q_m_or, q_m_item, ifB_f, o_add, c_gt, c_eq, c_eqs, v_bool, decide_false, List.length_cons, List.length_cons, c1, item_str h1 hl, ee]
  have sl1 : sliceV (.str l) (some ((sgT m).length : Int)) (some (((sgT m).length + w.length : Nat) : Int)) = some (.str w) := by
    rw [sl_both (by lia) (by lia) hl, Int.toNat_natCast, Int.toNat_natCast, el, cut_mid]
  refine s_swap (vs := [.str w, .int (((sgT m).length + w.length : Nat) : Int), .int 0]) (σ₁ := σ) (by simp only [Option.bind_some, Option.map_some, lget_zero, lget_succ, List.set_cons_zero, List.set_cons_succ, q_m_cst, q_m_loc, q_m_tup, q_m_slice, q_l_nil, q_l_cons, q_o_yes, v_int, sl1]) rfl rfl ?_
  have hpt := r_sign (d + 3) ((sgT m).length + w.length) l σ hl
  rw [e1] at hpt
  have hex := r_exp (d + 1) ((sgT m).length + w.length + (ptT p).length) l x rest E σ hl (by lia) e2 k5 hr
  have htu := r_turned (d + 3) R m σ hR
  have fin : ∀ (F : List Nat) (q : Int), F = w ++ p → q = p.length → execB (callM prog F0 (d + 4)) F0 (dropB 6 p_json_number.body) [some (.str l), some (.int 0), some (.bool m), some (.int (sgT m).length), some (.int (((sgT m).length + w.length : Nat) : Int)), some (.str F), some (.int (((sgT m).length + w.length + (ptT p).length : Nat) : Int)), some (.int q), none, none] σ = some (.ret (.tup [.int (sgn m + R), .int (numT m w p x).length]) σ) := fun F q hF hq => by
    subst hF
    subst hq
    refine s_tset (vs := [.int E, .int (((sgT m).length + w.length + (ptT p).length + x.length : Nat) : Int)]) (σ₁ := σ) (by
      simp only [Option.bind_some, Option.map_some, lget_zero, lget_succ, q_m_loc, q_m_call, q_l_nil, q_l_cons]
      exact hex) rfl (s_ret ?_)
    rw [← ln]
    simp only [Option.bind_some, Option.map_some, lget_zero, lget_succ, List.set_cons_zero, List.set_cons_succ, q_m_loc, q_m_bin, q_m_tup, q_m_call, q_l_nil, q_l_cons, o_sub, hf, htu]
  by_cases q : p = []
  · have pn : ptT p = [] := by unfold ptT; rw [if_pos q]
    rw [pn, List.nil_append] at hpt
    have c3 : ¬ ((x ++ rest).take 1 = [46]) := by
      intro z
      cases hxr : x ++ rest with
      | nil => rw [hxr] at z; cases z
      | cons c r =>
        rw [hxr] at z
        have : c = 46 := by injection z
        exact xs2 c r hxr this
    refine s_if_f (x := .bool false) (σ₁ := σ) (by simp only [Option.bind_some, Option.map_some, lget_zero, lget_succ, List.set_cons_zero, List.set_cons_succ, q_m_cst, q_m_loc, q_m_cmp, q_m_call, q_l_nil, q_l_cons, c_eqs, decide_false, hpt, c3]) rfl s_nil ?_
    have := fin w 0 (by rw [q, List.append_nil]) (by rw [q]; rfl)
    rw [pn, List.length_nil, Nat.add_zero] at this
    exact this
  · have pn : ptT p = 46 :: p := by unfold ptT; rw [if_neg q]
    rw [pn] at hpt
    have e3 : l.drop ((sgT m).length + w.length + 1) = p ++ (x ++ rest) := by rw [← List.drop_drop, e1, pn]; rfl
    have hre2 := r_run_end (d + 2) ((sgT m).length + w.length + 1) 10 l p (x ++ rest) σ hl e3 (digs_fig k4) xs1
    have a1 : (((sgT m).length + w.length : Nat) : Int) + 1 = (((sgT m).length + w.length + 1 : Nat) : Int) := by lia
    have hp0 := dig_pos q
    have c4 : ¬ ((((sgT m).length + w.length + 1 + p.length : Nat) : Int) = (((sgT m).length + w.length + 1 : Nat) : Int)) := by lia
    have sl2 : sliceV (.str l) (some (((sgT m).length + w.length + 1 : Nat) : Int)) (some (((sgT m).length + w.length + 1 + p.length : Nat) : Int)) = some (.str p) := by
      rw [sl_both (by lia) (by lia) hl, Int.toNat_natCast, Int.toNat_natCast, List.drop_take, e3, Nat.add_sub_cancel_left, List.take_left]
    have lw : w.length ≤ 1000 := by lia
    have lp : p.length ≤ 1000 := by have := ln; rw [pn, List.length_cons] at this; lia
    have gadd : decide (w.length + p.length ≤ 1000000) = true := decide_eq_true (by lia)
    have sub : ((((sgT m).length + w.length + 1 + p.length : Nat) : Int) - (((sgT m).length + w.length : Nat) : Int)) - 1 = (p.length : Int) := by lia
    have t46 : (46 :: p ++ (x ++ rest)).take 1 = [46] := rfl
    rw [t46] at hpt
    have hre3 : callM prog F0 (d + 4) 112 [.str l, .int (((sgT m).length + w.length + 1 : Nat) : Int), .int 10] σ = some (.int (((sgT m).length + w.length + 1 + p.length : Nat) : Int), σ) := hre2
    refine s_if_t (x := .bool true) (σ₁ := σ) (by simp only [Option.bind_some, Option.map_some, lget_zero, lget_succ, List.set_cons_zero, List.set_cons_succ, q_m_cst, q_m_loc, q_m_cmp, q_m_call, q_l_nil, q_l_cons, c_eqs, decide_true, hpt]) rfl (s_set (x := .int (((sgT m).length + w.length + 1 + p.length : Nat) : Int)) (σ₁ := σ) (by simp only [Option.bind_some, Option.map_some, lget_zero, lget_succ, List.set_cons_zero, List.set_cons_succ, q_m_cst, q_m_loc, q_m_bin, q_m_call, q_l_nil, q_l_cons, o_add, a1, hre3]) (s_if_f (x := .bool false) (σ₁ := σ) (by simp only [Option.bind_some, Option.map_some, lget_zero, lget_succ, List.set_cons_zero, List.set_cons_succ, q_m_cst, q_m_loc, q_m_bin, q_m_cmp, o_add, c_eq, decide_false, a1, c4]) rfl s_nil (s_swap (vs := [.str (w ++ p), .int (p.length : Int)]) (σ₁ := σ) (by simp only [Option.bind_some, Option.map_some, lget_zero, lget_succ, List.set_cons_zero, List.set_cons_succ, q_m_cst, q_m_loc, q_m_bin, q_m_tup, q_m_slice, q_l_nil, q_l_cons, q_o_yes, guard_t, o_add, o_sub, o_adds, v_int, a1, sl2, gadd, sub]) rfl rfl s_nil))) ?_
    have := fin (w ++ p) p.length rfl rfl
    rw [pn, List.length_cons, ← Nat.add_assoc, Nat.add_right_comm _ p.length 1] at this
    exact this
/-! json_plain -/
theorem not_word {l k : List Nat} (h : ∀ c r, l = c :: r → ∀ e s, k = e :: s → c ≠ e) (hk : k ≠ []) : ¬ (l.take k.length = k) := by
  intro q
  cases k with
  | nil => exact hk rfl
  | cons e s =>
    cases l with
    | nil => cases q
    | cons c r =>
      refine h c r rfl e s rfl ?_
      rw [List.length_cons, List.take_succ_cons] at q
      injection q
noncomputable def wordVs : List V := [.tup [.str [110, 117, 108, 108], .tup [.str [110, 117, 108, 108], .none]], .tup [.str [116, 114, 117, 101], .tup [.str [98, 111, 111, 108], .bool true]], .tup [.str [102, 97, 108, 115, 101], .tup [.str [98, 111, 111, 108], .bool false]]]
theorem sl_word {l k : List Nat} (hl : l.length ≤ 1000) : sliceV (.str l) (some 0) (some ((0 : Int) + (k.length : Int))) = some (.str (l.take k.length)) := by
  rw [sl_both (by lia) (by lia) hl, Int.zero_add, Int.toNat_natCast]; rfl
theorem plain_words {l : List Nat} (hl : l.length ≤ 1000) (hn : ∀ c r, l = c :: r → c ≠ 110 ∧ c ≠ 116 ∧ c ≠ 102) (C : Nat → List V → St → Option (V × St)) (u v : Option V) (r4 r5 r6 : Option V) :
    Mine.forM (fun v Λ => (asTup v).bind fun xs => setN [2, 3] xs Λ) (execB C F0 lb_json_plain_0) wordVs [some (.str l), some (.int 0), u, v, r4, r5, r6] σ =
      some (.next [some (.str l), some (.int 0), some (.str [102, 97, 108, 115, 101]), some (.tup [.str [98, 111, 111, 108], .bool false]), r4, r5, r6] σ) := by
  have w1 := sl_word (k := [110, 117, 108, 108]) hl
  have w2 := sl_word (k := [116, 114, 117, 101]) hl
  have w3 := sl_word (k := [102, 97, 108, 115, 101]) hl
  have n1 : ¬ (l.take [110, 117, 108, 108].length = [110, 117, 108, 108]) := not_word (fun c r e a s q => by injection q with q _; have := hn c r e; lia) (by simp)
  have n2 : ¬ (l.take [116, 114, 117, 101].length = [116, 114, 117, 101]) := not_word (fun c r e a s q => by injection q with q _; have := hn c r e; lia) (by simp)
  have n3 : ¬ (l.take [102, 97, 108, 115, 101].length = [102, 97, 108, 115, 101]) := not_word (fun c r e a s q => by injection q with q _; have := hn c r e; lia) (by simp)
  have b1 := bi_len (σ := σ) (s := [110, 117, 108, 108]) (by decide)
  have b2 := bi_len (σ := σ) (s := [116, 114, 117, 101]) (by decide)
  have b3 := bi_len (σ := σ) (s := [102, 97, 108, 115, 101]) (by decide)
  have one : ∀ (k : List Nat) (t : V) (u v : Option V), biV σ 0 [.str k] = some (.int k.length) → sliceV (.str l) (some 0) (some ((0 : Int) + (k.length : Int))) = some (.str (l.take k.length)) → ¬ (l.take k.length = k) →
      execB C F0 lb_json_plain_0 [some (.str l), some (.int 0), some (.str k), some t, r4, r5, r6] σ = some (.next [some (.str l), some (.int 0), some (.str k), some t, r4, r5, r6] σ) := fun k t u v b w n => by
    refine s_if_f (x := .bool false) (σ₁ := σ) (by simp only [Option.bind_some, Option.map_some, lget_zero, lget_succ, q_m_loc, q_m_bin, q_m_cmp, q_m_bi, q_m_slice, q_l_nil, q_l_cons, q_o_yes, o_add, c_eqs, v_int, decide_false, b, w, n]) rfl s_nil s_nil
  unfold wordVs
  simp only [forM_cons, forM_nil, v_tup, Option.bind_some, setN_cons, setN_nil, List.set_cons_zero, List.set_cons_succ, one _ _ u v b1 w1 n1, one _ _ u v b2 w2 n2, one _ _ u v b3 w3 n3, thn_n]
theorem r_plain_num {l : List Nat} {B e : Int} (hl : l.length ≤ 1000) (hc : ∃ c r, l = c :: r ∧ (c = 45 ∨ (48 ≤ c ∧ c ≤ 57))) (hn : callM prog F0 (d + 2) 204 [.str l, .int 0] σ = some (.tup [.int B, .int e], σ)) :
    callM prog F0 (d + 3) 225 [.str l, .int 0] σ = some (.tup [.tup [tNum, .int B], .int e], σ) := by
  obtain ⟨c, r, rfl, hc⟩ := hc
  have hs : callM prog F0 (d + 2) 190 [.str (c :: r), .int 0] σ = some (.str [c], σ) := r_sign (d + 1) 0 (c :: r) σ hl
  refine run_eq (d := d + 2) (a := 225) (args := [.str (c :: r), .int 0]) (o := .ret (.tup [.tup [tNum, .int B], .int e]) σ) (Λ := [some (.str (c :: r)), some (.int 0), none, none, none, none, none]) (f := p_json_plain) rfl rfl rfl ?_
  refine s_forN (σ₁ := σ) (vs := wordVs) rfl (plain_words hl (fun a b e => by injection e with e _; lia) _ none none none none none) ?_
  have c1 : ¬ ([c] = [34]) := fun q => by injection q with q _; lia
  refine s_if_f (x := .bool false) (σ₁ := σ) (by simp only [Option.bind_some, Option.map_some, lget_zero, lget_succ, q_m_cst, q_m_loc, q_m_cmp, q_m_call, q_l_nil, q_l_cons, c_eqs, decide_false, hs, c1]) rfl s_nil ?_
  refine s_if_f (x := .bool false) (σ₁ := σ) ?_ rfl s_nil ?_
  · have c2 : ¬ ([c] = []) := by simp
    have h0 : itemV σ (.str (c :: r)) (.int 0) = some (.str [c]) := item_str (n := 0) rfl hl
    by_cases q : c = 45
    · have c3 : ([c] = [45]) := by rw [q]
      simp only [Option.bind_some, Option.map_some, lget_zero, lget_succ, q_m_cst, q_m_loc, q_m_cmp, q_m_and, q_m_or, q_m_call, q_m_item, q_l_nil, q_l_cons, ifB_f, c_eqs, c_nes, v_bool, decide_true, Bool.not_true, hs, c3]
    · have c3 : ¬ ([c] = [45]) := fun z => q (by injection z)
      have c4 : c ∈ [48, 49, 50, 51, 52, 53, 54, 55, 56, 57] := (show ∀ c : Nat, c < 58 → 48 ≤ c → c ∈ [48, 49, 50, 51, 52, 53, 54, 55, 56, 57] by decide) c (by lia) (by lia)
      simp only [Option.bind_some, Option.map_some, lget_zero, lget_succ, q_m_cst, q_m_loc, q_m_cmp, q_m_and, q_m_or, q_m_call, q_m_item, q_l_nil, q_l_cons, ifB_t, ifB_f, c_eqs, c_nes, c_nin1, v_bool, decide_true, decide_false, Bool.not_true, Bool.not_false, hs, c3, c2, h0, c4]
  refine s_tset (vs := [.int B, .int e]) (σ₁ := σ) (by simp only [Option.bind_some, Option.map_some, lget_zero, lget_succ, q_m_loc, q_m_call, q_l_nil, q_l_cons, hn]) rfl (s_ret ?_)
  simp only [Option.bind_some, Option.map_some, lget_zero, lget_succ, List.set_cons_zero, List.set_cons_succ, q_m_cst, q_m_loc, q_m_tup, q_l_nil, q_l_cons]
  rfl
end
end Mine
namespace Mine
/-! ## the text of a double is read back -/
theorem fig_dig {c : Nat} (h : 48 ≤ c ∧ c ≤ 57) : fig c = c - 48 := by unfold fig; rw [if_pos h]
theorem val_dv : ∀ (ds : List Nat) (a : Nat), Digs ds → val 10 ds a = ds.foldl (fun acc c => acc * 10 + (c - 48)) a
  | [], a, _ => rfl
  | c :: ds, a, h => by
    show val 10 ds (a * 10 + fig c) = ds.foldl _ (a * 10 + (c - 48))
    rw [fig_dig (h c (.head _))]
    exact val_dv ds _ fun x hx => h x (.tail _ hx)
theorem dtx_digs (n : Nat) : Digs (dtx n) := by
  intro c hc
  obtain ⟨ch, hch, e⟩ := List.mem_map.mp hc
  have r := digit_range (Nat.isDigit_of_mem_toDigits (by decide) (by decide) hch)
  rw [← e]
  exact r
theorem dtx_val (n : Nat) : val 10 (dtx n) 0 = n := by
  rw [val_dv _ _ (dtx_digs n)]
  exact PySem.W.KIN.val_back n
theorem dtx_ne (n : Nat) : dtx n ≠ [] := by
  intro h
  have h1 := dtx_len n
  rw [h] at h1
  have h2 : 1 ≤ dLen n := tDigits_len_ge 10 n
  rw [← h1] at h2
  exact absurd h2 (by decide)
theorem val_app (r : Nat) (a b : List Nat) (x : Nat) : val r (a ++ b) x = val r b (val r a x) := List.foldl_append ..
theorem val_zeros (a : Nat) : ∀ k : Nat, val 10 (List.replicate k 48) a = a * 10 ^ k
  | 0 => (Nat.mul_one a).symm
  | k + 1 => by
    rw [List.replicate_succ', val_app, val_zeros a k]
    show a * 10 ^ k * 10 + 0 = _
    rw [Nat.pow_succ, Nat.mul_assoc, Nat.add_zero]
theorem val_fig : ∀ (ds : List Nat) (a : Nat), (∀ c ∈ ds, c ≤ 9) → val 10 (figT ds) a = a * 10 ^ ds.length + dval ds
  | [], a, _ => by show a = a * 1 + 0; lia
  | c :: ds, a, h => by
    have hc := h c (.head _)
    show val 10 (figT ds) (a * 10 + fig (48 + c)) = _
    rw [val_fig ds _ fun x hx => h x (.tail _ hx), fig_dig (by lia), Nat.add_sub_cancel_left]
    show (a * 10 + c) * 10 ^ ds.length + dval ds = a * 10 ^ (ds.length + 1) + (c * 10 ^ ds.length + dval ds)
    rw [Nat.add_mul, Nat.pow_succ, Nat.mul_assoc a, Nat.mul_comm 10, Nat.add_assoc]
theorem figT_digs {ds : List Nat} (h : ∀ c ∈ ds, c ≤ 9) : Digs (figT ds) := by
  intro c hc
  obtain ⟨a, ha, rfl⟩ := List.mem_map.mp hc
  have := h a ha
  lia
theorem zeros_digs (k : Nat) : Digs (List.replicate k 48) := by
  intro c hc
  rw [List.mem_replicate] at hc
  lia
theorem digs_app {a b : List Nat} (ha : Digs a) (hb : Digs b) : Digs (a ++ b) := by
  intro c hc
  rcases List.mem_append.mp hc with h | h
  · exact ha c h
  · exact hb c h
theorem dLen_le3 {n k : Nat} (h : n < 2 ^ (3 * k)) (hk : 1 ≤ k) : dLen n ≤ k := by
  refine digits10_le hk (Nat.lt_of_lt_of_le h ?_)
  rw [Nat.pow_mul]
  exact Nat.pow_le_pow_left (by decide) k
theorem Dbl.place {M pp pm : Nat} (h : Dbl M pp pm) : -100 ≤ sP M pp pm ∧ sP M pp pm ≤ 100 := by
  have hp := h.hp
  have hm := h.hm
  have hfac : fac M < 2 ^ 3 := by unfold fac; split <;> decide
  have hpp : 2 ^ pp < 2 ^ 201 := Nat.pow_lt_pow_right (by decide) (by lia)
  have hpm : 2 ^ pm < 2 ^ 201 := Nat.pow_lt_pow_right (by decide) (by lia)
  have l1 : dLen (sN M pp) ≤ 90 := dLen_le3 (Nat.lt_of_lt_of_le (mul_lt2 (mul_lt2 h.hi hfac) hpp) (Nat.pow_le_pow_right (by decide) (by decide))) (by decide)
  have l2 : dLen (sU M pm) ≤ 90 := dLen_le3 (Nat.lt_of_lt_of_le (mul_lt2 hfac hpm) (Nat.pow_le_pow_right (by decide) (by decide))) (by decide)
  unfold sP plI
  have hd : -91 ≤ dpI (sN M pp) (sU M pm) ∧ dpI (sN M pp) (sU M pm) ≤ 91 := by
    unfold dpI
    split <;> lia
  split <;> lia
theorem sexp_ok {e : Int} (h : e.natAbs ≤ 1000) : XOk (sexp e) e := by
  refine .inr ⟨101, if e < 0 then [45] else [43], dtx e.natAbs, ?_, ⟨.inl rfl, ?_, dtx_ne _, dtx_digs _, by rw [dtx_val]; lia, ?_⟩⟩
  · unfold sexp; rfl
  · split
    · exact .inr (.inl rfl)
    · exact .inl rfl
  · rw [dtx_val]
    by_cases c : e < 0
    · rw [if_pos c, if_pos rfl]; lia
    · rw [if_neg c, if_neg (by decide)]; lia
structure LayNum (t : List Nat) (V : Nat) (g : Int) (w p x : List Nat) (E : Int) : Prop where
  eq : t = w ++ (ptT p ++ x)
  ok : NumOk w p x E
  v : val 10 (w ++ p) 0 * 10 ^ (E - p.length).toNat = V * hiP g
  b : 10 ^ (-(E - p.length)).toNat = loP g
  lo : -200 ≤ E - p.length
  hi : ((w ++ p).length : Int) + (E - p.length) ≤ 400
  len : (w ++ p).length ≤ 500
theorem lay_num {ds : List Nat} {P : Int} (hd : ∀ c ∈ ds, c ≤ 9) (hf : ∃ c r, ds = c :: r ∧ 1 ≤ c) (hl : ds.length ≤ 20) (hP : -100 ≤ P ∧ P ≤ 100) : ∃ w p x E, LayNum (lay (figT ds) P) (dval ds) (P - ds.length) w p x E := by
  obtain ⟨c0, r0, e0, c1⟩ := hf
  have fl := fig_len ds
  have fd := figT_digs hd
  have n1 : 1 ≤ ds.length := by rw [e0]; simp
  have head : ∀ s r : List Nat, figT ds ++ s = 48 :: r → False := fun s r q => by
    rw [e0] at q
    have : 48 + c0 = 48 := by injection q
    lia
  have head1 : ∀ k (r : List Nat), (figT ds).take (k + 1) = 48 :: r → False := fun k r q => by
    rw [e0] at q
    have : 48 + c0 = 48 := by injection q
    lia
  have vf := val_fig ds 0 hd
  rw [Nat.zero_mul, Nat.zero_add] at vf
  unfold lay
  rw [fl]
  by_cases k1 : (ds.length : Int) ≤ P ∧ P ≤ 21
  · rw [if_pos k1]
    refine ⟨figT ds ++ List.replicate (P - ds.length).toNat 48, [], [], 0, ⟨?_, ⟨digs_app fd (zeros_digs _), ?_, fun r q => (head _ r q).elim, fun _ h => absurd h List.not_mem_nil, .inl ⟨rfl, rfl⟩⟩, ?_, ?_, ?_, ?_, ?_⟩⟩
    · unfold ptT; simp
    · intro q
      have := congrArg List.length q
      rw [List.length_append, List.length_replicate, fl, List.length_nil] at this; lia
    · rw [List.append_nil, val_app, val_zeros, vf]; unfold hiP
      show _ * 10 ^ 0 = _
      rw [Nat.pow_zero, Nat.mul_one]
    · unfold loP
      rw [show (-(P - (ds.length : Int))).toNat = 0 by lia]; rfl
    · show (-200 : Int) ≤ 0; decide
    · rw [List.append_nil, List.length_append, List.length_replicate, fl]
      show _ + (0 : Int) ≤ _
      lia
    · rw [List.append_nil, List.length_append, List.length_replicate, fl]; lia
  · rw [if_neg k1]
    by_cases k2 : 0 < P ∧ P ≤ 21
    · rw [if_pos k2]
      have lt : ((figT ds).take P.toNat).length = P.toNat := by rw [List.length_take, fl]; lia
      have ld : ((figT ds).drop P.toNat).length = ds.length - P.toNat := by rw [List.length_drop, fl]
      have pn : (figT ds).drop P.toNat ≠ [] := by intro q; rw [q] at ld; simp at ld; lia
      have ee : (0 : Int) - (((figT ds).drop P.toNat).length : Int) = P - ds.length := by rw [ld]; lia
      refine ⟨(figT ds).take P.toNat, (figT ds).drop P.toNat, [], 0, ⟨?_, ⟨fun c h => fd c (List.mem_of_mem_take h), ?_, fun r q => ?_, fun c h => fd c (List.mem_of_mem_drop h), .inl ⟨rfl, rfl⟩⟩, ?_, ?_, ?_, ?_, ?_⟩⟩
      · unfold ptT; rw [if_neg pn]; simp
      · intro q; rw [q] at lt; simp at lt; lia
      · obtain ⟨k, hk⟩ : ∃ k, P.toNat = k + 1 := ⟨P.toNat - 1, by lia⟩
        rw [hk] at q
        exact (head1 k r q).elim
      · rw [List.take_append_drop, vf, ee]; rfl
      · rw [ee]; rfl
      · rw [ee]; lia
      · rw [List.take_append_drop, ee, fl]; lia
      · rw [List.take_append_drop, fl]; lia
    · rw [if_neg k2]
      by_cases k3 : -6 < P ∧ P ≤ 0
      · rw [if_pos k3]
        have ee : (0 : Int) - ((List.replicate (0 - P).toNat 48 ++ figT ds).length : Int) = P - ds.length := by rw [List.length_append, List.length_replicate, fl]; lia
        refine ⟨[48], List.replicate (0 - P).toNat 48 ++ figT ds, [], 0, ⟨?_, ⟨?_, by simp, fun r q => by injection q with _ q; exact q.symm, digs_app (zeros_digs _) fd, .inl ⟨rfl, rfl⟩⟩, ?_, ?_, ?_, ?_, ?_⟩⟩
        · unfold ptT; rw [if_neg]
          · simp
          · intro q
            have := congrArg List.length q
            rw [List.length_append, List.length_replicate, fl, List.length_nil] at this; lia
        · intro c h; rw [List.mem_singleton.mp h]; decide
        · rw [val_app, val_app, val_zeros]
          show val 10 (figT ds) (0 * _) * _ = _
          rw [Nat.zero_mul, vf, ee]; rfl
        · rw [ee]; rfl
        · rw [ee]; lia
        · rw [ee, List.length_append, List.length_append, List.length_replicate, fl, List.length_singleton]; lia
        · rw [List.length_append, List.length_append, List.length_replicate, fl, List.length_singleton]; lia
      · rw [if_neg k3]
        unfold wexp
        have ld : ((figT ds).drop 1).length = ds.length - 1 := by rw [List.length_drop, fl]
        have ee : (P - 1) - (((figT ds).drop 1).length : Int) = P - ds.length := by rw [ld]; lia
        refine ⟨(figT ds).take 1, (figT ds).drop 1, sexp (P - 1), P - 1, ⟨?_, ⟨fun c h => fd c (List.mem_of_mem_take h), ?_, fun r q => (head1 0 r q).elim, fun c h => fd c (List.mem_of_mem_drop h), sexp_ok (by lia)⟩, ?_, ?_, ?_, ?_, ?_⟩⟩
        · unfold ptT
          rw [fl]
          by_cases q : 1 < ds.length
          · rw [if_pos q, if_neg]
            · simp
            · intro z; rw [z] at ld; simp at ld; lia
          · rw [if_neg q, if_pos]
            · simp
            · exact List.length_eq_zero_iff.mp (by rw [ld]; lia)
        · intro q; have := congrArg List.length q; rw [List.length_take, fl, List.length_nil] at this; lia
        · rw [List.take_append_drop, vf, ee]; rfl
        · rw [ee]; rfl
        · rw [ee]; lia
        · rw [List.take_append_drop, ee, fl]; lia
        · rw [List.take_append_drop, fl]; lia
theorem dval_pos {ds : List Nat} (hf : ∃ c r, ds = c :: r ∧ 1 ≤ c) : 0 < dval ds := by
  obtain ⟨c, r, rfl, h⟩ := hf
  show 0 < c * 10 ^ r.length + dval r
  have : 0 < c * 10 ^ r.length := Nat.mul_pos h (Nat.pow_pos (by decide))
  omega
theorem dval_lt {ds : List Nat} (hd : ∀ c ∈ ds, c ≤ 9) : dval ds < 2 ^ (4 * ds.length) := by
  have h1 := val_lt (radix := 10) (by decide) (figT ds) 0 0 (by decide) fun c hc => dig_fig (figT_digs hd c hc)
  rw [val_fig ds 0 hd, fig_len, Nat.zero_mul, Nat.zero_add, Nat.zero_add] at h1
  exact h1
theorem shown_back {M pp pm : Nat} (h : Dbl M pp pm) : ∃ w p x E, lay (figT (sD M pp pm)) (sP M pp pm) = w ++ (ptT p ++ x) ∧ NumOk w p x E ∧ (w ++ p).length ≤ 500 ∧ ∀ (d : Nat) (σ : St), callM prog F0 (d + 4) 126 [.str (w ++ p), .int (E - p.length)] σ = some (.int (dR M pp pm), σ) := by
  have hp := h.hp
  have hm := h.hm
  obtain ⟨b1, b2, b3, K, q, f1, f2, f3, f4, f5⟩ := sh_back h.lo h.hi (pp := pp) (pm := pm) (by lia)
  have hP := h.place
  obtain ⟨w, p, x, E, g1, g2, g3, g4, g5, g6, g7⟩ := lay_num b1 b2 b3 hP
  refine ⟨w, p, x, E, g1, g2, g7, fun d σ => ?_⟩
  have hv : 0 < val 10 (w ++ p) 0 := by
    apply Nat.pos_of_ne_zero
    intro z
    rw [z, Nat.zero_mul] at g3
    have := Nat.mul_pos (dval_pos b2) (hiP_pos (sP M pp pm - (sD M pp pm).length))
    lia
  have hsz : dval (sD M pp pm) * hiP (sP M pp pm - (sD M pp pm).length) < 2 ^ 2000 := by
    have h1 : dval (sD M pp pm) < 2 ^ 80 := Nat.lt_of_lt_of_le (dval_lt b1) (Nat.pow_le_pow_right (by decide) (by lia))
    have h2 := hiP_lt (e := sP M pp pm - (sD M pp pm).length) (k := 100) (by lia)
    exact Nat.lt_of_lt_of_le (mul_lt2 h1 h2) (Nat.pow_le_pow_right (by decide) (by decide))
  have := r_from_dec d K q (w ++ p) (E - p.length) σ (by lia) (digs_app g2.hw g2.hp) hv (by lia) g6 (by rw [g3]; exact hsz) (by rw [g3, g4]; exact f1) (by lia) (by lia)
  rw [this, g3, g4, f5]
  rfl
end Mine
namespace Mine
/-! ## the reader -/
noncomputable def blank (c : Nat) : Prop := c = 32 ∨ c = 9 ∨ c = 10 ∨ c = 13
theorem blank_mem {c : Nat} : c ∈ [32, 9, 10, 13] ↔ blank c := by unfold blank; simp
theorem skip_loop (d : Nat) (l rest : List Nat) (σ : St) (hl : l.length ≤ 1000) (hs : ∀ c r, rest = c :: r → ¬ blank c) (bs : List Nat) : ∀ (n f : Nat), bs.length < f → l.drop n = bs ++ rest → (∀ c ∈ bs, blank c) →
    whileM (evalM (callM prog F0 d) lc_skip_json_blanks_0) (execB (callM prog F0 d) F0 lb_skip_json_blanks_0) f [some (.str l), some (.int n)] σ = some (.next [some (.str l), some (.int ((n + bs.length : Nat) : Int))] σ) := by
  induction bs with
  | nil =>
    intro n f hf hd _
    obtain ⟨f, rfl⟩ : ∃ g, f = g + 1 := ⟨f - 1, by lia⟩
    refine while_f (x := .bool false) (σ₁ := σ) ?_ rfl
    cases rest with
    | nil =>
      have c : ¬ ((n : Int) < (l.length : Int)) := by have := drop_end hd; lia
      simp only [lc_skip_json_blanks_0, Option.bind_some, Option.map_some, lget_zero, lget_succ, q_m_cst, q_m_loc, q_m_cmp, q_m_and, q_m_bi, q_m_item, q_l_nil, q_l_cons, ifB_f, c_lt, v_bool, decide_false, bi_len hl, c]
    | cons c r =>
      obtain ⟨h1, h2, h3⟩ := drop_at (show l.drop n = c :: r from hd)
      have c1 : (n : Int) < (l.length : Int) := by lia
      have c2 : ¬ (c ∈ [32, 9, 10, 13]) := fun q => hs c r rfl (blank_mem.mp q)
      simp only [lc_skip_json_blanks_0, Option.bind_some, Option.map_some, lget_zero, lget_succ, q_m_cst, q_m_loc, q_m_cmp, q_m_and, q_m_bi, q_m_item, q_l_nil, q_l_cons, ifB_t, c_lt, c_in1, v_bool, decide_true, decide_false, bi_len hl, c1, item_str h1 hl, c2]
  | cons c bs ih =>
    intro n f hf hd ha
    obtain ⟨f, rfl⟩ : ∃ g, f = g + 1 := ⟨f - 1, by lia⟩
    obtain ⟨h1, h2, h3⟩ := drop_at (show l.drop n = c :: (bs ++ rest) from hd)
    have c1 : (n : Int) < (l.length : Int) := by lia
    have c2 : c ∈ [32, 9, 10, 13] := blank_mem.mpr (ha c (.head _))
    have ih := ih (n + 1) f (Nat.lt_of_succ_lt_succ hf) h2 fun x hx => ha x (.tail _ hx)
    rw [show n + 1 + bs.length = n + (c :: bs).length by rw [List.length_cons]; lia] at ih
    refine (while_t (x := .bool true) (σ₁ := σ) ?_ rfl ?_).trans ih
    · simp only [lc_skip_json_blanks_0, Option.bind_some, Option.map_some, lget_zero, lget_succ, q_m_cst, q_m_loc, q_m_cmp, q_m_and, q_m_bi, q_m_item, q_l_nil, q_l_cons, ifB_t, c_lt, c_in1, v_bool, decide_true, bi_len hl, c1, item_str h1 hl, c2]
    · have e : (n : Int) + 1 = ((n + 1 : Nat) : Int) := by lia
      simp only [lb_skip_json_blanks_0, Option.bind_some, Option.map_some, lget_zero, lget_succ, List.set_cons_zero, List.set_cons_succ, q_m_cst, q_s_aug, q_b_nil, q_b_cons, thn_n, v_int, e]
theorem r_blanks (d n : Nat) (l bs rest : List Nat) (σ : St) (hl : l.length ≤ 1000) (hd : l.drop n = bs ++ rest) (ha : ∀ c ∈ bs, blank c) (hs : ∀ c r, rest = c :: r → ¬ blank c) :
    callM prog F0 (d + 1) 197 [.str l, .int n] σ = some (.int ((n + bs.length : Nat) : Int), σ) := by
  have hlen : bs.length ≤ 1000 := by
    have := congrArg List.length hd
    simp at this; omega
  refine run_eq (d := d) (a := 197) (args := [.str l, .int n]) (o := .ret (.int ((n + bs.length : Nat) : Int)) σ) (Λ := [some (.str l), some (.int n)]) (f := p_skip_json_blanks) rfl rfl rfl ?_
  exact s_loop (skip_loop d l rest σ hl hs bs n F0 (by show _ < 100000; lia) hd ha) (s_ret (by simp only [Option.map_some, lget_zero, lget_succ, q_m_loc]))
noncomputable def fl (l : List Nat) (a : Nat) (w k : Nat) : List (Str × V) := [(fldName 0, .str l), (fldName 1, .int a), (fldName 2, .ref w), (fldName 3, .ref k)]
noncomputable def rdS (σ : St) (l : List Nat) (a : Nat) (r : St) : St := σ ++ (.flds (fl l a (σ.length + 1) (σ.length + 2)) :: .list [] :: .list [] :: r)
section
variable {σ r : St} {l : List Nat} {a d : Nat}
theorem rd_flds : fldsAt (rdS σ l a r) σ.length = some (fl l a (σ.length + 1) (σ.length + 2)) := by
  unfold fldsAt rdS
  rw [List.getElem?_append_right (Nat.le_refl _), Nat.sub_self]; rfl
theorem rd_fld (n : Nat) : fldOf (rdS σ l a r) σ.length (fldName n) = (fl l a (σ.length + 1) (σ.length + 2)).lookup (fldName n) := by
  unfold fldOf rdS
  rw [List.getElem?_append_right (Nat.le_refl _), Nat.sub_self]; rfl
theorem fl0 (w k : Nat) : (fl l a w k).lookup (fldName 0) = some (.str l) := rfl
theorem fl1 (w k : Nat) : (fl l a w k).lookup (fldName 1) = some (.int a) := rfl
theorem fl2 (w k : Nat) : (fl l a w k).lookup (fldName 2) = some (.ref w) := rfl
theorem fl_m (w k f : Nat) : ((fl l a w k).lookup (methName f)).isNone = true := by
  have : ∀ m : Str, m = "skip" ∨ m = "next_tree" ∨ m = "settled" ∨ m = "whole" → ((fl l a w k).lookup m).isNone = true := by
    rintro m (rfl | rfl | rfl | rfl) <;> rfl
  apply this
  unfold methName
  split
  · exact .inl rfl
  · split
    · exact .inr (.inl rfl)
    · split
      · exact .inr (.inr (.inl rfl))
      · exact .inr (.inr (.inr rfl))
theorem rd_set (b : Nat) : (rdS σ l a r).set σ.length (.flds (putF (fldName 1) (.int b) (fl l a (σ.length + 1) (σ.length + 2)))) = rdS σ l b r := by
  unfold rdS
  rw [List.set_append_right _ _ (Nat.le_refl _), Nat.sub_self]; rfl
theorem rd_wait : listV (rdS σ l a r) (.ref (σ.length + 1)) = some [] := by
  show (match (rdS σ l a r)[σ.length + 1]? with | some (.list l) => some l | _ => none) = _
  unfold rdS
  rw [List.getElem?_append_right (by lia), Nat.add_sub_cancel_left]; rfl
theorem s_setattr {C : Nat → List V → St → Option (V × St)} {F : Nat} {j n c : Nat} {e : MX} {m : MB} {Λ : Lo} {σ σ₁ : St} {x : V} {fs : List (Str × V)} {res : Option Out} (h1 : evalM C e Λ σ = some (x, σ₁)) (h2 : lget Λ j = some (.obj c)) (h3 : fldsAt σ₁ c = some fs) (h4 : decide (fs.length ≤ 100) = true)
    (h : execB C F m Λ (σ₁.set c (.flds (putF (fldName n) x fs))) = res) : execB C F (.cons (.setattr j n e) m) Λ σ = res := by
  rw [q_b_cons, q_s_setattr, h1, Option.bind_some, h2, Option.bind_some, v_obj, Option.bind_some, h3, Option.bind_some, h4, guard_t, Option.bind_some, thn_n]
  exact h
theorem r_init : callM prog F0 (d + 1) 239 [.obj σ.length, .str l] (σ ++ [.flds []]) = some (.none, rdS σ l 0 []) := by
  refine run_eq (d := d) (a := 239) (args := [.obj σ.length, .str l]) (o := .next [some (.obj σ.length), some (.str l)] (rdS σ l 0 [])) (Λ := [some (.obj σ.length), some (.str l)]) (f := p_init) rfl rfl rfl ?_
  have f1 : ∀ (F : List (Str × V)) (s : St), fldsAt (σ ++ (.flds F :: s)) σ.length = some F := fun F s => by
    unfold fldsAt
    rw [List.getElem?_append_right (Nat.le_refl _), Nat.sub_self]; rfl
  have f2 : ∀ (F : List (Str × V)) (s : St) (x : Cell), (σ ++ (.flds F :: s)).set σ.length x = σ ++ (x :: s) := fun F s x => by
    rw [List.set_append_right _ _ (Nat.le_refl _), Nat.sub_self]; rfl
  have f3 : ∀ (F : List (Str × V)) (s : St), (σ ++ (.flds F :: s)) ++ [Cell.list []] = σ ++ (.flds F :: (s ++ [.list []])) := fun F s => by simp
  have f4 : ∀ (F : List (Str × V)) (s : St), (σ ++ (.flds F :: s)).length = σ.length + 1 + s.length := fun F s => by simp; lia
  have ap : ∀ s : St, (σ ++ [Cell.flds []] : St) = σ ++ (.flds [] :: []) := fun _ => rfl
  refine s_setattr (F := F0) (m := dropB 1 p_init.body) (x := .str l) (σ₁ := σ ++ [.flds []]) (c := σ.length) (fs := []) rfl rfl (f1 _ _) rfl ?_
  rw [f2]
  refine s_setattr (F := F0) (m := dropB 2 p_init.body) (x := .int 0) (c := σ.length) (fs := [(fldName 0, .str l)]) rfl rfl (f1 _ _) rfl ?_
  rw [f2]
  refine s_setattr (F := F0) (m := dropB 3 p_init.body) (x := .ref (σ.length + 1)) (c := σ.length) (fs := [(fldName 0, .str l), (fldName 1, .int 0)]) (by rw [q_m_lst, f3, f4]; rfl) rfl (f1 _ _) rfl ?_
  rw [f2]
  refine s_setattr (F := F0) (m := dropB 4 p_init.body) (x := .ref (σ.length + 2)) (c := σ.length) (fs := [(fldName 0, .str l), (fldName 1, .int 0), (fldName 2, .ref (σ.length + 1))]) (by rw [q_m_lst, f3, f4]; rfl) rfl (f1 _ _) rfl ?_
  rw [f2]
  rfl
theorem r_skip {bs rest : List Nat} (hl : l.length ≤ 1000) (hd : l.drop a = bs ++ rest) (ha : ∀ c ∈ bs, blank c) (hs : ∀ c r, rest = c :: r → ¬ blank c) : callM prog F0 (d + 2) 246 [.obj σ.length] (rdS σ l a r) = some (.str (rest.take 1), rdS σ l (a + bs.length) r) := by
  refine run_eq (d := d + 1) (a := 246) (args := [.obj σ.length]) (o := .ret (.str (rest.take 1)) (rdS σ l (a + bs.length) r)) (Λ := [some (.obj σ.length)]) (f := p_skip) rfl rfl rfl ?_
  have h1 := r_blanks d a l bs rest (rdS σ l a r) hl hd ha hs
  have h2 := r_sign d (a + bs.length) l (rdS σ l (a + bs.length) r) hl
  rw [← List.drop_drop, hd, List.drop_left] at h2
  have g : decide ((fl l a (σ.length + 1) (σ.length + 2)).length ≤ 100) = true := rfl
  unfold p_skip
  simp only [Option.bind_some, Option.map_some, lget_zero, q_m_call, q_m_field, q_l_nil, q_l_cons, q_s_ret, q_s_setattr, q_b_cons, thn_n, thn_r, guard_t, v_obj, q_s_setattr, rd_fld, fl0, fl1, show notG (.str l) = true from rfl, show ∀ i, notG (.int i) = true from fun _ => rfl, h1, rd_flds, g, rd_set, h2]
theorem r_settled {t : V} : callM prog F0 (d + 1) 274 [.obj σ.length, t] (rdS σ l a r) = some (t, rdS σ l a r) := by
  refine run_eq (d := d) (a := 274) (args := [.obj σ.length, t]) (o := .ret t (rdS σ l a r)) (Λ := [some (.obj σ.length), some t, none, none, none]) (f := p_settled) rfl rfl rfl ?_
  refine s_loop (Λ₁ := [some (.obj σ.length), some t, none, none, none]) (σ₁ := rdS σ l a r) ?_ (s_ret (by simp only [Option.map_some, lget_zero, lget_succ, q_m_loc]))
  have hb : biV (rdS σ l a r) 0 [.ref (σ.length + 1)] = some (.int 0) := by
    show (listV (rdS σ l a r) (.ref (σ.length + 1))).bind _ = _
    rw [rd_wait]
    rfl
  refine while_f (n := 99999) (x := .bool false) (σ₁ := rdS σ l a r) ?_ rfl
  have c : ¬ ((0 : Int) < 0) := by decide
  simp only [lc_settled_0, Option.bind_some, Option.map_some, lget_zero, q_m_cst, q_m_cmp, q_m_bi, q_m_field, q_l_nil, q_l_cons, guard_t, c_gt, v_obj, decide_false, rd_fld, fl2, show ∀ i, notG (.ref i) = true from fun _ => rfl, hb, c]
structure Reads (d : Nat) (l : List Nat) (t : List V) (e : Nat) (bs : List Nat) : Prop where
  len : l.length ≤ 1000
  head : ∃ c r, l = c :: r ∧ ¬ blank c ∧ c ≠ 91 ∧ c ≠ 123
  plain : ∀ σ, ∃ τ, callM prog F0 d 225 [.str l, .int 0] σ = some (.tup [.tup t, .int e], σ ++ τ)
  rest : l.drop e = bs
  blanks : ∀ c ∈ bs, blank c
theorem r_next {t : List V} {e : Nat} {bs : List Nat} (h : Reads (d + 2) l t e bs) : ∃ τ, callM prog F0 (d + 3) 267 [.obj σ.length] (rdS σ l 0 r) = some (.tup t, rdS σ l e (r ++ τ)) := by
  obtain ⟨h1, ⟨c, s, hc, n1, n2, n3⟩, h3, h4, h5⟩ := h
  have hsk := r_skip (d := d) (σ := σ) (r := r) (l := l) (a := 0) (bs := []) (rest := l) h1 rfl (fun _ q => absurd q List.not_mem_nil) (fun a b q => by rw [hc] at q; injection q with q _; rw [← q]; exact n1)
  obtain ⟨τ, h3⟩ := h3 (rdS σ l 0 r)
  have ht : l.take 1 = [c] := by rw [hc]; rfl
  rw [ht] at hsk
  refine ⟨τ, ?_⟩
  have es : rdS σ l 0 r ++ τ = rdS σ l 0 (r ++ τ) := by unfold rdS; simp
  rw [es] at h3
  refine run_eq (d := d + 2) (a := 267) (args := [.obj σ.length]) (o := .ret (.tup t) (rdS σ l e (r ++ τ))) (Λ := [some (.obj σ.length), none, none]) (f := p_next_tree) rfl rfl rfl ?_
  refine s_set (x := .str [c]) (σ₁ := rdS σ l 0 r) (by
    simp only [Option.bind_some, Option.map_some, lget_zero, q_m_loc, q_m_meth, q_l_nil, guard_t, v_obj, rd_flds, fl_m]
    exact hsk) ?_
  have c1 : ¬ ([c] = [91]) := fun q => n2 (by injection q)
  have c2 : ¬ ([c] = [123]) := fun q => n3 (by injection q)
  refine s_if_f (x := .bool false) (σ₁ := rdS σ l 0 r) (by simp only [Option.bind_some, Option.map_some, lget_zero, lget_succ, List.set_cons_zero, List.set_cons_succ, q_m_cst, q_m_loc, q_m_cmp, c_eqs, decide_false, c1]) rfl s_nil ?_
  refine s_if_f (x := .bool false) (σ₁ := rdS σ l 0 r) (by simp only [Option.bind_some, Option.map_some, lget_zero, lget_succ, List.set_cons_zero, List.set_cons_succ, q_m_cst, q_m_loc, q_m_cmp, c_eqs, decide_false, c2]) rfl s_nil ?_
  have g : decide ((fl l 0 (σ.length + 1) (σ.length + 2)).length ≤ 100) = true := rfl
  have h3' : callM prog F0 (d + 2) 225 [.str l, .int ((0 : Nat) : Int)] (rdS σ l 0 r) = some (.tup [.tup t, .int e], rdS σ l 0 (r ++ τ)) := h3
  refine s_tset (Λ₁ := [some (.obj σ.length), some (.str [c]), some (.tup t)]) (vs := [.tup t, .int e]) (σ₁ := rdS σ l 0 (r ++ τ)) (σ₂ := rdS σ l e (r ++ τ)) (by
    simp only [Option.bind_some, Option.map_some, lget_zero, List.set_cons_zero, List.set_cons_succ, q_m_call, q_m_field, q_l_nil, q_l_cons, guard_t, v_obj, rd_fld, fl0, fl1, show notG (.str l) = true from rfl, show ∀ i, notG (.int i) = true from fun _ => rfl, h3']) ?_ (s_ret (by simp only [Option.map_some, lget_zero, lget_succ, q_m_loc]))
  show ((some (V.obj σ.length)).bind fun o => (asObj o).bind fun c => (fldsAt (rdS σ l 0 (r ++ τ)) c).bind fun fs => guardO (decide (fs.length ≤ 100)) (setG [] [] _ ((rdS σ l 0 (r ++ τ)).set c (.flds (putF (fldName 1) (.int e) fs))))) = _
  rw [Option.bind_some, v_obj, Option.bind_some, rd_flds, Option.bind_some, g, guard_t, rd_set]
  rfl
theorem r_whole {t : List V} {e : Nat} {bs : List Nat} (h : Reads (d + 2) l t e bs) : ∃ τ, callM prog F0 (d + 4) 281 [.obj σ.length] (rdS σ l 0 r) = some (.tup t, rdS σ l (e + bs.length) (r ++ τ)) := by
  obtain ⟨τ, hn⟩ := r_next (σ := σ) (r := r) h
  refine ⟨τ, ?_⟩
  have hst := r_settled (d := d + 2) (σ := σ) (l := l) (a := e) (r := r ++ τ) (t := .tup t)
  have hsk := r_skip (d := d + 1) (σ := σ) (r := r ++ τ) (l := l) (a := e) (bs := bs) (rest := []) h.len (by rw [List.append_nil]; exact h.rest) h.blanks (fun _ _ q => by cases q)
  have d1 : d + 1 + 2 = d + 3 := by lia
  have d2 : d + 2 + 1 = d + 3 := by omega
  rw [d1] at hsk
  rw [d2] at hst
  refine run_eq (d := d + 3) (a := 281) (args := [.obj σ.length]) (o := .ret (.tup t) (rdS σ l (e + bs.length) (r ++ τ))) (Λ := [some (.obj σ.length), none, none]) (f := p_whole) rfl rfl rfl ?_
  refine s_set (x := .none) (σ₁ := rdS σ l 0 r) rfl ?_
  refine s_loop (Λ₁ := [some (.obj σ.length), some (.tup t), some (.tup t)]) (σ₁ := rdS σ l e (r ++ τ)) ?_ ?_
  · refine (while_t (n := 99999) (x := .bool true) (σ₁ := rdS σ l 0 r) (Λ₂ := [some (.obj σ.length), some (.tup t), some (.tup t)]) (σ₂ := rdS σ l e (r ++ τ)) rfl rfl ?_).trans (while_f (n := 99998) (x := .bool false) (σ₁ := rdS σ l e (r ++ τ)) rfl rfl)
    refine s_set (x := .tup t) (σ₁ := rdS σ l e (r ++ τ)) (by simp only [Option.bind_some, Option.map_some, lget_zero, List.set_cons_zero, List.set_cons_succ, q_m_loc, q_m_meth, q_l_nil, guard_t, v_obj, rd_flds, fl_m, hn]) ?_
    exact s_if_t (x := .bool true) (σ₁ := rdS σ l e (r ++ τ)) rfl rfl (s_set (x := .tup t) (σ₁ := rdS σ l e (r ++ τ)) (by simp only [Option.bind_some, Option.map_some, lget_zero, lget_succ, List.set_cons_zero, List.set_cons_succ, q_m_loc, q_m_meth, q_l_nil, q_l_cons, guard_t, v_obj, rd_flds, fl_m, hst]) s_nil) s_nil
  · refine s_if_f (x := .bool false) (σ₁ := rdS σ l (e + bs.length) (r ++ τ)) ?_ rfl s_nil (s_ret (by simp only [Option.map_some, lget_zero, lget_succ, q_m_loc]))
    have t0 : ([] : List Nat).take 1 = [] := rfl
    rw [t0] at hsk
    have ee : (([] : List Nat) = []) := rfl
    simp only [Option.bind_some, Option.map_some, lget_zero, q_m_cst, q_m_loc, q_m_cmp, q_m_meth, q_l_nil, guard_t, c_nes, v_obj, decide_true, Bool.not_true, rd_flds, fl_m, hsk, ee]
theorem r_read {t : List V} {e : Nat} {bs : List Nat} (h : Reads (d + 2) l t e bs) : ∃ τ, callM prog F0 (d + 5) 295 [.str l] σ = some (.tup t, σ ++ τ) := by
  obtain ⟨τ, hw⟩ := r_whole (σ := σ) (r := []) h
  refine ⟨.flds (fl l (e + bs.length) (σ.length + 1) (σ.length + 2)) :: .list [] :: .list [] :: ([] ++ τ), ?_⟩
  refine run_eq (d := d + 4) (a := 295) (args := [.str l]) (o := .ret (.tup t) (rdS σ l (e + bs.length) ([] ++ τ))) (Λ := [some (.str l)]) (f := p_read_json) rfl rfl rfl (s_ret ?_)
  have hi := r_init (d := d + 3) (σ := σ) (l := l)
  have nn : isNoneB .none = true := rfl
  simp only [Option.bind_some, Option.map_some, lget_zero, q_m_loc, q_m_meth, q_m_new, q_l_nil, q_l_cons, guard_t, v_obj, List.nil_append, hi, nn, rd_flds, fl_m, hw]
end
end Mine
namespace Mine
/-! ## whole numbers are shown by their figures -/
noncomputable def shw (M pp pm : Nat) : List Nat := lay (figT (sD M pp pm)) (sP M pp pm)
theorem shw_0 : ∀ i, i < 250 → i ≠ 0 → shw (i * 2 ^ (52 - i.log2)) 0 (52 - i.log2) = dtx i := by decide +kernel
theorem shw_1 : ∀ i, i < 250 → shw ((250 + i) * 2 ^ (52 - (250 + i).log2)) 0 (52 - (250 + i).log2) = dtx (250 + i) := by decide +kernel
theorem shw_2 : ∀ i, i < 250 → shw ((500 + i) * 2 ^ (52 - (500 + i).log2)) 0 (52 - (500 + i).log2) = dtx (500 + i) := by decide +kernel
theorem shw_3 : ∀ i, i < 250 → shw ((750 + i) * 2 ^ (52 - (750 + i).log2)) 0 (52 - (750 + i).log2) = dtx (750 + i) := by decide +kernel
theorem shw_small (a : Nat) (h : a < 1000) (h0 : a ≠ 0) : shw (a * 2 ^ (52 - a.log2)) 0 (52 - a.log2) = dtx a := by
  by_cases c1 : a < 250
  · exact shw_0 a c1 h0
  · by_cases c2 : a < 500
    · obtain ⟨i, rfl⟩ := Nat.le.dest (Nat.le_of_not_lt c1)
      exact shw_1 i (by lia)
    · by_cases c3 : a < 750
      · obtain ⟨i, rfl⟩ := Nat.le.dest (Nat.le_of_not_lt c2)
        exact shw_2 i (by lia)
      · obtain ⟨i, rfl⟩ := Nat.le.dest (Nat.le_of_not_lt c3)
        exact shw_3 i (by lia)
theorem shw_a : shw (2 ^ 53 - 1) 0 0 = dtx (2 ^ 53 - 1) := by decide +kernel
theorem shw_b : shw (2 ^ 52) 1 0 = dtx (2 ^ 53) := by decide +kernel
end Mine
namespace Mine
/-! ## the draws -/
noncomputable def stp (k : Nat) (xs : List Int) (τ : St) : St := .arr [.int (k : Nat), .lst (xs.map .int)] :: τ
section
variable {τ : St} {xs : List Int} {k d : Nat}
theorem i_0 : itemV (stp k xs τ) (.ref 0) (.int 0) = some (.int (k : Nat)) := rfl
theorem i_1 : itemV (stp k xs τ) (.ref 0) (.int 1) = some (.lst (xs.map .int)) := rfl
theorem fmod_lt {a : Int} {n : Nat} (h : 0 < n) : ∃ v : Nat, v < n ∧ a.fmod n = (v : Int) := by
  have h1 := Int.fmod_nonneg_of_pos a (show (0 : Int) < n by lia)
  have h2 := Int.fmod_lt_of_pos a (show (0 : Int) < n by lia)
  obtain ⟨v, hv⟩ := Int.eq_ofNat_of_zero_le h1
  exact ⟨v, by omega, hv⟩
theorem r_draw {n : Nat} (hk : k ≤ 900) (hx : xs.length ≤ 900) (hn : 0 < n) (hn2 : n ≤ 1000) : ∃ v : Nat, v < n ∧ callM prog F0 (d + 1) 432 [.ref 0, .int n] (stp k xs τ) = some (.int v, stp (k + 1) xs τ) := by
  have dn : ∀ a : Int, divG a (n : Int) = true := fun a => divG_nat hn (lt9 (a := 10) (Nat.lt_of_le_of_lt hn2 (by decide)) (by decide))
  have body : ∀ z : Int, evalM (callM prog F0 d) (.ite (.cmp .LtE (.item (.loc 0) (.cst (.int (0)))) (.bi 0 (.cons (.item (.loc 0) (.cst (.int (1)))) .nil))) (.item (.item (.loc 0) (.cst (.int (1)))) (.bin .Sub (.item (.loc 0) (.cst (.int (0)))) (.cst (.int (1))))) (.bin .Add (.bin .Add (.bin .Mult (.cst (.int (7))) (.item (.loc 0) (.cst (.int (0))))) (.bin .FloorDiv (.item (.loc 0) (.cst (.int (0)))) (.cst (.int (2))))) (.cst (.int (4))))) [some (.ref 0), some (.int n)] (stp (k + 1) xs τ) = some (.int z, stp (k + 1) xs τ) →
      ∃ v : Nat, v < n ∧ callM prog F0 (d + 1) 432 [.ref 0, .int n] (stp k xs τ) = some (.int v, stp (k + 1) xs τ) := fun z hz => by
    obtain ⟨v, hv, e⟩ := fmod_lt (a := z) hn
    refine ⟨v, hv, ?_⟩
    refine run_eq (d := d) (a := 432) (args := [.ref 0, .int n]) (o := .ret (.int v) (stp (k + 1) xs τ)) (Λ := [some (.ref 0), some (.int n)]) (f := p_law_next) rfl rfl rfl ?_
    unfold p_law_next
    have e1 : (k : Int) + 1 = ((k + 1 : Nat) : Int) := by lia
    have ha : arrAt (stp k xs τ) 0 = some [.int (k : Nat), .lst (xs.map .int)] := rfl
    have hs : execM (callM prog F0 d) F0 (.setitem (.loc 0) (.cst (.int (0))) (.bin .Add (.item (.loc 0) (.cst (.int (0)))) (.cst (.int (1))))) [some (.ref 0), some (.int n)] (stp k xs τ) = some (.next [some (.ref 0), some (.int n)] (stp (k + 1) xs τ)) := by
      simp only [q_s_setitem, Option.bind_some, Option.map_some, lget_zero, q_m_cst, q_m_loc, q_m_bin, q_m_item, q_s_setitem, o_add, v_int, v_ref, List.length_cons, List.length_nil, Nat.reduceAdd, i_0, e1, ha]
      rfl
    rw [q_b_cons, hs, Option.bind_some, thn_n]
    refine s_ret ?_
    rw [q_m_bin, hz, Option.bind_some, q_m_loc]
    simp only [Option.bind_some, Option.map_some, lget_zero, lget_succ, guard_t, o_mod, dn, e]
  have hl : lenV (stp (k + 1) xs τ) (.lst (xs.map .int)) = some (.int (xs.length : Nat)) := by
    show guardO (decide ((xs.map V.int).length < 2 ^ 62)) (some (V.int ((xs.map V.int).length : Nat))) = _
    rw [List.length_map, decide_eq_true (Nat.lt_of_le_of_lt hx (by decide))]; rfl
  have hb : biV (stp (k + 1) xs τ) 0 [.lst (xs.map .int)] = some (.int (xs.length : Nat)) := hl
  by_cases c : k + 1 ≤ xs.length
  · have c' : ((k + 1 : Nat) : Int) ≤ (xs.length : Int) := by lia
    have hk' : k < xs.length := by lia
    refine body xs[k] ?_
    have e1 : ((k + 1 : Nat) : Int) - 1 = (k : Int) := by lia
    have hi : itemV (stp (k + 1) xs τ) (.lst (xs.map .int)) (.int (k : Nat)) = some (.int xs[k]) := by
      show (if 0 ≤ ((k : Nat) : Int) ∧ (xs.map V.int).length ≤ 1000 then (xs.map V.int)[((k : Nat) : Int).toNat]? else none) = _
      rw [if_pos ⟨by lia, by rw [List.length_map]; lia⟩, Int.toNat_natCast, List.getElem?_map, List.getElem?_eq_getElem hk']; rfl
    simp only [Option.bind_some, Option.map_some, lget_zero, q_m_cst, q_m_loc, q_m_bin, q_m_cmp, q_m_ite, q_m_bi, q_m_item, q_l_nil, q_l_cons, t_bool, ifB_t, o_sub, o_mul, c_le, decide_true, i_0, i_1, hb, c', e1, hi]
  · have c' : ¬ ((k + 1 : Nat) : Int) ≤ (xs.length : Int) := by lia
    have m7 : mulG 7 ((k + 1 : Nat) : Int) = true := mulG_nat (a := 7) (lt9 (a := 3) (by decide) (by decide)) (lt9 (a := 10) (Nat.lt_of_le_of_lt (m := 901) (by lia) (by decide)) (by decide))
    have d2 : divG ((k + 1 : Nat) : Int) 2 = true := divG_nat (b := 2) (by decide) (lt9 (a := 2) (by decide) (by decide))
    refine body (7 * ((k + 1 : Nat) : Int) + ((k + 1 : Nat) : Int).fdiv 2 + 4) ?_
    simp only [Option.bind_some, Option.map_some, lget_zero, q_m_cst, q_m_loc, q_m_bin, q_m_cmp, q_m_ite, q_m_bi, q_m_item, q_l_nil, q_l_cons, t_bool, guard_t, ifB_f, o_add, o_sub, o_mul, o_fdiv, c_le, decide_false, i_0, i_1, hb, c', m7, d2]
end
/-! ## the law's number -/
theorem val_zero_all : ∀ (ds : List Nat), Digs ds → val 10 ds 0 = 0 → ds.dropWhile (· == 48) = []
  | [], _, _ => rfl
  | c :: ds, h, hv => by
    have hc := h c (.head _)
    have hv2 : val 10 ds (fig c) = 0 := by
      have : val 10 ds (0 * 10 + fig c) = 0 := hv
      rwa [Nat.zero_mul, Nat.zero_add] at this
    have mono : ∀ (ds : List Nat) (a : Nat), a ≤ val 10 ds a := by
      intro ds
      induction ds with
      | nil => intro a; exact Nat.le_refl _
      | cons c ds ih => intro a; exact Nat.le_trans (by lia) (ih (a * 10 + fig c))
    have h0 : fig c = 0 := by have := mono ds (fig c); lia
    rw [fig_dig hc] at h0
    have e : c = 48 := by lia
    subst e
    rw [List.dropWhile_cons, if_pos (show ((48 : Nat) == 48) = true from rfl)]
    exact val_zero_all ds (fun x hx => h x (.tail _ hx)) hv2
theorem dtx_head : ∀ (n : Nat), 0 < n → ∃ c r, dtx n = c :: r ∧ 49 ≤ c := by
  intro n
  induction n using Nat.strongRecOn with
  | _ n ih =>
    intro h
    by_cases q : n < 10
    · rw [dtx_fig n (by lia)]
      exact ⟨_, _, rfl, by lia⟩
    · have t : Nat.toDigits 10 (n / 10) ++ Nat.toDigits 10 (n % 10) = Nat.toDigits 10 (10 * (n / 10) + n % 10) := Nat.toDigits_append_toDigits (by decide) (by lia) (Nat.mod_lt n (by decide))
      rw [Nat.div_add_mod] at t
      obtain ⟨c, r, e, hc⟩ := ih (n / 10) (by lia) (by lia)
      refine ⟨c, r ++ dtx (n % 10), ?_, hc⟩
      unfold dtx at *
      rw [← t, List.map_append, e]; rfl
theorem dtx_z {n : Nat} : ∀ r, dtx n = 48 :: r → r = [] := by
  intro r h
  by_cases q : n = 0
  · subst q
    rw [dtx_fig 0 (by decide)] at h
    injection h with _ h; exact h.symm
  · obtain ⟨c, s, e, hc⟩ := dtx_head n (by lia)
    rw [e] at h
    have : c = 48 := by injection h
    lia
theorem sub_a {q K : Nat} (h : K ≤ q + 190) : q - K + 1074 - (K - q) = q + 1074 - K := by
  by_cases c : K ≤ q
  · obtain ⟨r, rfl⟩ := Nat.le.dest c
    rw [Nat.add_sub_cancel_left, Nat.sub_eq_zero_of_le (Nat.le_add_right K r), Nat.sub_zero, Nat.add_assoc, Nat.add_sub_cancel_left]
  · obtain ⟨r, rfl⟩ := Nat.le.dest (Nat.le_of_not_le c)
    rw [Nat.sub_eq_zero_of_le (Nat.le_add_right q r), Nat.zero_add, Nat.add_sub_cancel_left, Nat.add_sub_add_left]
theorem dbl_of {t b K q : Nat} (hb : 0 < b) (h : Fit t b K q) (h1 : q ≤ K + 190) (h2 : K ≤ q + 190) :
    ∃ M pp pm, Dbl M pp pm ∧ (q + 1074 - K) * 2 ^ 52 + rnd (t * 2 ^ K) (b * 2 ^ q) = dR M pp pm ∧ (rnd (t * 2 ^ K) (b * 2 ^ q) < 2 ^ 53 → M = rnd (t * 2 ^ K) (b * 2 ^ q) ∧ pp = q - K ∧ pm = K - q) := by
  have hB : 0 < b * 2 ^ q := Nat.mul_pos hb (Nat.two_pow_pos _)
  have r1 := le_rnd hB h.1
  have r2 := rnd_le hB h.2
  generalize rnd (t * 2 ^ K) (b * 2 ^ q) = w at *
  by_cases c : w < 2 ^ 53
  · refine ⟨w, q - K, K - q, ⟨r1, c, by lia, by lia, by lia⟩, ?_, fun _ => ⟨rfl, rfl, rfl⟩⟩
    unfold dR
    rw [show q - K + 1074 - (K - q) = q + 1074 - K from sub_a h2]
  · have e : w = 2 ^ 53 := Nat.le_antisymm r2 (Nat.not_lt.mp c)
    refine ⟨2 ^ 52, q + 1 - K, K - (q + 1), ⟨Nat.le_refl _, by decide, by omega, by omega, by lia⟩, ?_, fun h => absurd h c⟩
    unfold dR
    rw [show q + 1 - K + 1074 - (K - (q + 1)) = q + 1074 - K + 1 from (sub_a (Nat.le_trans h2 (by rw [Nat.add_right_comm]; exact Nat.le_succ _))).trans (by rw [Nat.add_right_comm q 1 1074, Nat.succ_sub (Nat.le_trans h2 (Nat.add_le_add_left (by decide) q))]), Nat.add_mul, Nat.one_mul, e, show (2 : Nat) ^ 53 = 2 ^ 52 + 2 ^ 52 by decide, Nat.add_assoc]
structure Bits (fs : List Nat) (e : Int) (m : Bool) (R : Nat) : Prop where
  dbl : ∀ (d : Nat) (σ : St), callM prog F0 (d + 1) 439 [.bool m, .int (((val 10 fs 0 * hiP e : Nat)) : Int), .int ((loP e : Nat) : Int)] σ = some (.int (sgn m + R), σ)
  dec : ∀ (d : Nat) (σ : St), callM prog F0 (d + 4) 126 [.str fs, .int e] σ = some (.int R, σ)
theorem bits_zero {fs : List Nat} {e : Int} {m : Bool} (hl : fs.length ≤ 100) (hd : Digs fs) (hv : val 10 fs 0 = 0) : Bits fs e m 0 := by
  refine ⟨fun d σ => ?_, fun d σ => ?_⟩
  · rw [hv, Nat.zero_mul]
    have := w_dbl_zero (s := m) (σ := σ) (b := ((loP e : Nat) : Int)) d
    have e0 : sgn m + ((0 : Nat) : Int) = sgn m := by show sgn m + (0 : Int) = _; rw [Int.add_zero]
    rw [e0]
    exact this
  · exact r_from_zero (d + 3) fs e σ (by lia) (val_zero_all fs hd hv)
theorem bits_pos {fs : List Nat} {e : Int} {m : Bool} {K q : Nat} (hl : fs.length ≤ 19) (hd : Digs fs) (hv : 0 < val 10 fs 0) (h1 : -20 ≤ e) (h2 : e ≤ 20) (hf : Fit (val 10 fs 0 * hiP e) (loP e) K q) (k1 : K ≤ q + 190) (k2 : q ≤ K + 190) :
    Bits fs e m ((q + 1074 - K) * 2 ^ 52 + rnd (val 10 fs 0 * hiP e * 2 ^ K) (loP e * 2 ^ q)) := by
  have v1 : val 10 fs 0 < 2 ^ 76 := Nat.lt_of_lt_of_le (val_lt (radix := 10) (by decide) fs 0 0 (by decide) (fun c hc => dig_fig (hd c hc))) (Nat.pow_le_pow_right (by decide) (by lia))
  have t1 := mul_lt2 v1 (hiP_lt (e := e) (k := 20) h2)
  have b1 := loP_lt (e := e) (k := 20) (by omega)
  have t2 : val 10 fs 0 * hiP e < 2 ^ 2000 := Nat.lt_of_lt_of_le t1 (Nat.pow_le_pow_right (by decide) (by decide))
  have b2 : loP e < 2 ^ 2000 := Nat.lt_of_lt_of_le b1 (Nat.pow_le_pow_right (by decide) (by decide))
  refine ⟨fun d σ => ?_, fun d σ => ?_⟩
  · exact r_dbl d _ _ K q m σ (Nat.mul_pos hv (hiP_pos e)) (loP_pos e) t2 b2 hf (by lia) (by lia)
  · exact r_from_dec d K q fs e σ (by lia) hd hv (by lia) (by lia) t2 hf (by lia) (by lia)
theorem bits_ex {fs : List Nat} {e : Int} {m : Bool} (hl : fs.length ≤ 19) (hd : Digs fs) (hv : 0 < val 10 fs 0) (h1 : -20 ≤ e) (h2 : e ≤ 20) : ∃ M pp pm, Dbl M pp pm ∧ Bits fs e m (dR M pp pm) := by
  have v1 : val 10 fs 0 < 2 ^ 76 := Nat.lt_of_lt_of_le (val_lt (radix := 10) (by decide) fs 0 0 (by decide) (fun c hc => dig_fig (hd c hc))) (Nat.pow_le_pow_right (by decide) (by lia))
  have t1 := mul_lt2 v1 (hiP_lt (e := e) (k := 20) h2)
  have b1 := loP_lt (e := e) (k := 20) (by omega)
  have t0 : 0 < val 10 fs 0 * hiP e := Nat.mul_pos hv (hiP_pos e)
  have lt1 : (val 10 fs 0 * hiP e).log2 < 76 + (4 * 20 + 1) := (Nat.log2_lt (by lia)).mpr t1
  have lb1 : (loP e).log2 < 4 * 20 + 1 := (Nat.log2_lt (Nat.ne_of_gt (loP_pos e))).mpr b1
  obtain ⟨q, hf, q1, q2⟩ := fit_exists t0 (loP_pos e)
  obtain ⟨M, pp, pm, hD, hR, _⟩ := dbl_of (loP_pos e) hf (by lia) (by lia)
  exact ⟨M, pp, pm, hD, hR ▸ bits_pos hl hd hv h1 h2 hf (by lia) (by lia)⟩
theorem rnd_exact {c B : Nat} (hB : 0 < B) : rnd (c * B) B = c := by
  unfold rnd
  rw [Nat.mul_div_cancel _ hB, Nat.mul_mod_left, if_neg (by lia), Nat.add_zero]
theorem bits_plain {a : Nat} {m : Bool} (h : 0 < a) (h2 : a < 1000 ∨ a = 2 ^ 53 - 1 ∨ a = 2 ^ 53) : ∃ M pp pm, Dbl M pp pm ∧ Bits (dtx a) 0 m (dR M pp pm) ∧ shw M pp pm = dtx a := by
  have hl : (dtx a).length ≤ 19 := by
    rw [dtx_len]
    refine digits10_le (by decide) ?_
    rcases h2 with h2 | h2 | h2
    · exact Nat.lt_trans h2 (by decide)
    · rw [h2]; decide
    · rw [h2]; decide
  have hv : val 10 (dtx a) 0 = a := dtx_val a
  have small : a < 2 ^ 53 → a ≠ 0 → ∃ M pp pm, Dbl M pp pm ∧ Bits (dtx a) 0 m (dR M pp pm) ∧ M = a * 2 ^ (52 - a.log2) ∧ pp = 0 ∧ pm = 52 - a.log2 := fun ha h0 => by
    have hlg : a.log2 < 53 := (Nat.log2_lt h0).mpr ha
    obtain ⟨l1, l2⟩ := (log2_is h0).mp rfl
    have hf : Fit (val 10 (dtx a) 0 * hiP 0) (loP 0) (52 - a.log2) 0 := by
      rw [hv]
      show 2 ^ 52 * (1 * 1) ≤ a * 1 * 2 ^ (52 - a.log2) ∧ a * 1 * 2 ^ (52 - a.log2) < 2 ^ 53 * (1 * 1)
      simp only [Nat.mul_one]
      constructor
      · have : 2 ^ 52 = 2 ^ a.log2 * 2 ^ (52 - a.log2) := by rw [← Nat.pow_add]; congr 1; lia
        rw [this]; exact Nat.mul_le_mul_right _ l1
      · have : 2 ^ 53 = 2 ^ (a.log2 + 1) * 2 ^ (52 - a.log2) := by rw [← Nat.pow_add]; congr 1; lia
        rw [this]; exact Nat.mul_lt_mul_of_pos_right l2 (Nat.two_pow_pos _)
    have hB := bits_pos (m := m) hl (dtx_digs a) (by rw [hv]; exact h) (by decide) (by decide) hf (by omega) (by lia)
    obtain ⟨M, pp, pm, hD, hR, hM⟩ := dbl_of (loP_pos 0) hf (by lia) (by omega)
    have hr : rnd (val 10 (dtx a) 0 * hiP 0 * 2 ^ (52 - a.log2)) (loP 0 * 2 ^ 0) = a * 2 ^ (52 - a.log2) := by
      rw [hv]
      have := rnd_exact (c := a * 2 ^ (52 - a.log2)) (B := 1) (by decide)
      rw [Nat.mul_one] at this
      show rnd (a * 1 * 2 ^ (52 - a.log2)) (1 * 1) = _
      rw [Nat.mul_one, Nat.mul_one, this]
    have hlt : rnd (val 10 (dtx a) 0 * hiP 0 * 2 ^ (52 - a.log2)) (loP 0 * 2 ^ 0) < 2 ^ 53 := by
      rw [hr]
      have := hf.2
      rw [hv] at this
      have e : a * hiP 0 * 2 ^ (52 - a.log2) = a * 2 ^ (52 - a.log2) := by show a * 1 * _ = _; rw [Nat.mul_one]
      rw [e] at this
      exact this
    obtain ⟨m1, m2, m3⟩ := hM hlt
    rw [hr] at m1
    rw [hR] at hB
    exact ⟨M, pp, pm, hD, hB, m1, by lia, by omega⟩
  rcases h2 with h2 | h2 | h2
  · obtain ⟨M, pp, pm, hD, hB, e1, e2, e3⟩ := small (Nat.lt_trans h2 (by decide)) (by lia)
    refine ⟨M, pp, pm, hD, hB, ?_⟩
    rw [e1, e2, e3]
    exact shw_small a h2 (by lia)
  · obtain ⟨M, pp, pm, hD, hB, e1, e2, e3⟩ := small (by rw [h2]; decide) (by lia)
    refine ⟨M, pp, pm, hD, hB, ?_⟩
    have lg : (2 ^ 53 - 1).log2 = 52 := by decide
    have lp : (2 ^ 53 - 1) * 2 ^ (52 - 52) = 2 ^ 53 - 1 := by decide
    rw [h2, lg] at e1 e3
    rw [lp] at e1
    rw [e1, e2, e3, h2]
    exact shw_a
  · have hf : Fit (val 10 (dtx a) 0 * hiP 0) (loP 0) 0 1 := by
      rw [hv, h2]
      show 2 ^ 52 * (1 * 2 ^ 1) ≤ 2 ^ 53 * 1 * 2 ^ 0 ∧ 2 ^ 53 * 1 * 2 ^ 0 < 2 ^ 53 * (1 * 2 ^ 1)
      decide
    have hB := bits_pos (m := m) hl (dtx_digs a) (by rw [hv]; exact h) (by decide) (by decide) hf (by lia) (by lia)
    have hr : rnd (val 10 (dtx a) 0 * hiP 0 * 2 ^ 0) (loP 0 * 2 ^ 1) = 2 ^ 52 := by rw [hv, h2]; decide
    rw [hr] at hB
    refine ⟨2 ^ 52, 1, 0, ⟨by decide, by decide, by decide, by decide, .inr rfl⟩, hB, ?_⟩
    rw [h2]
    exact shw_b
end Mine
namespace Mine
theorem r_drawI {τ : St} {xs : List Int} {k : Nat} (d n : Nat) (N : Int) (hN : N = n) (hk : k ≤ 900) (hx : xs.length ≤ 900) (hn : 0 < n) (hn2 : n ≤ 1000) : ∃ v : Nat, v < n ∧ callM prog F0 (d + 1) 432 [.ref 0, .int N] (stp k xs τ) = some (.int v, stp (k + 1) xs τ) := by
  rw [hN]
  exact r_draw hk hx hn hn2
theorem bi_ints {σ : St} {l : List Nat} (h : Digs l) (h0 : l ≠ []) (hl : l.length ≤ 600) : biV σ 6 [.str l] = some (.int ((val 10 l 0 : Nat) : Int)) := by
  show ((PySem.intText? ⟨l.toArray⟩).bind fun n => guardO (decide (l.length ≤ 640)) (some (V.int n))) = _
  have e := intText_digits (x := ⟨l.toArray⟩) (by intro c hc; exact h c (by simpa using hc)) (by simpa using h0) (by show l.toArray.size ≤ 4300; simp; lia)
  have e2 : (⟨l.toArray⟩ : Str).cps.toList = l := by simp
  rw [e2] at e
  rw [e, val_dv l 0 h, Option.bind_some, decide_eq_true (show l.length ≤ 640 by lia)]
  rfl
theorem strI_all : ∀ v : Nat, v < 25 → (Str.ofString (toString ((v : Int) - 12))).cps.toList = (if v < 12 then [45] else []) ++ dtx ((v : Int) - 12).natAbs := by decide +kernel
noncomputable def lsg (v : Nat) : List Nat := if v < 12 then [45] else if v % 2 = 0 then [43] else []
theorem bi_lift {σ : St} {v : Nat} (h : v < 25) : biV σ 7 [.int ((v : Int) - 12)] = some (.str ((if v < 12 then [45] else []) ++ dtx ((v : Int) - 12).natAbs)) := by
  rw [bi_str, strI_all v h]
  have : ((v : Int) - 12).natAbs.log2 < 1920 := by
    by_cases h0 : ((v : Int) - 12).natAbs = 0
    · rw [h0]; decide
    · exact (Nat.log2_lt h0).mpr (Nat.lt_of_le_of_lt (show ((v : Int) - 12).natAbs ≤ 12 by omega) (Nat.lt_of_lt_of_le (show 12 < 2 ^ 4 by decide) (Nat.pow_le_pow_right (by decide) (by decide))))
  rw [decide_eq_true this]; rfl
noncomputable def lxT (mk : List Nat) (v : Nat) : List Nat := if mk = [] then [] else mk ++ (lsg v ++ dtx ((v : Int) - 12).natAbs)
noncomputable def lxE (mk : List Nat) (v : Nat) : Int := if mk = [] then 0 else (v : Int) - 12
theorem lx_ok {mk : List Nat} {v : Nat} (h : mk = [] ∨ mk = [101] ∨ mk = [69]) (hv : v < 25) : XOk (lxT mk v) (lxE mk v) := by
  unfold lxT lxE
  by_cases q : mk = []
  · rw [if_pos q, if_pos q]; exact .inl ⟨rfl, rfl⟩
  · rw [if_neg q, if_neg q]
    have hx : ∀ c, c = 101 ∨ c = 69 → XIs c (lsg v) (dtx ((v : Int) - 12).natAbs) ((v : Int) - 12) := fun c hc => by
      refine ⟨hc, ?_, dtx_ne _, dtx_digs _, by rw [dtx_val]; omega, ?_⟩
      · unfold lsg
        split
        · exact .inr (.inl rfl)
        · split
          · exact .inl rfl
          · exact .inr (.inr rfl)
      · rw [dtx_val]
        unfold lsg
        by_cases c1 : v < 12
        · rw [if_pos c1, if_pos rfl]; omega
        · rw [if_neg c1]
          by_cases c2 : v % 2 = 0
          · rw [if_pos c2, if_neg (by decide)]; omega
          · rw [if_neg c2, if_neg (by decide)]; omega
    rcases h with h | h | h
    · exact absurd h q
    · exact .inr ⟨101, _, _, by rw [h]; rfl, hx 101 (.inl rfl)⟩
    · exact .inr ⟨69, _, _, by rw [h]; rfl, hx 69 (.inr rfl)⟩
structure LawNum (m : Bool) (w p x : List Nat) (E : Int) (R a : Nat) (pl : Bool) : Prop where
  ok : NumOk w p x E
  len : (numT m w p x).length ≤ 60
  bits : Bits (w ++ p) (E - p.length) m R
  r : R = 0 ∨ ∃ M pp pm, Dbl M pp pm ∧ R = dR M pp pm ∧ (pl = true → a ≤ 2 ^ 53 → shw M pp pm = w)
  plain : pl = true → p = [] ∧ x = []
structure Drawn (a : Nat) (p mk : List Nat) (v : Nat) : Prop where
  ha : a < 1000 ∨ (2 ^ 53 - 1 ≤ a ∧ a ≤ 2 ^ 53 + 7)
  hp : p = [] ∨ p = [53] ∨ p = [49, 50, 53] ∨ p = [48] ∨ p = [51]
  hk : mk = [] ∨ mk = [101] ∨ mk = [69]
  hv : v < 25
theorem Drawn.alen {a v : Nat} {p mk : List Nat} (h : Drawn a p mk v) : (dtx a).length ≤ 16 := by
  rw [dtx_len]
  refine digits10_le (by decide) ?_
  rcases h.ha with h | ⟨_, h⟩
  · exact Nat.lt_trans h (by decide)
  · exact Nat.lt_of_le_of_lt h (by decide)
theorem Drawn.plen {a v : Nat} {p mk : List Nat} (h : Drawn a p mk v) : p.length ≤ 3 ∧ Digs p := by
  rcases h.hp with h | h | h | h | h <;> subst h <;> refine ⟨by decide, ?_⟩ <;> intro c hc <;> simp at hc <;> lia
theorem Drawn.mlen {a v : Nat} {p mk : List Nat} (h : Drawn a p mk v) : mk.length ≤ 1 := by
  rcases h.hk with h | h | h <;> subst h <;> decide
theorem Drawn.xlen {a v : Nat} {p mk : List Nat} (h : Drawn a p mk v) : (lsg v).length ≤ 1 ∧ (dtx ((v : Int) - 12).natAbs).length ≤ 2 := by
  constructor
  · unfold lsg; split
    · decide
    · split <;> decide
  · rw [dtx_len]
    have := h.hv
    exact digits10_le (by decide) (Nat.lt_of_le_of_lt (m := 12) (by omega) (by decide))
theorem law_num {m : Bool} {a v : Nat} {p mk : List Nat} (h : Drawn a p mk v) : ∃ R, LawNum m (dtx a) p (lxT mk v) (lxE mk v) R a (decide (p = []) && decide (mk = [])) := by
  obtain ⟨p1, p2⟩ := h.plen
  have a1 := h.alen
  obtain ⟨x1, x2⟩ := h.xlen
  have m1 := h.mlen
  have hx := lx_ok h.hk h.hv
  have ok : NumOk (dtx a) p (lxT mk v) (lxE mk v) := ⟨dtx_digs a, dtx_ne a, dtx_z, p2, hx⟩
  have hxl : (lxT mk v).length ≤ 4 := by
    unfold lxT
    split
    · simp
    · rw [List.length_append, List.length_append]; lia
  have hpt : (ptT p).length ≤ 4 := by
    unfold ptT
    split
    · simp
    · rw [List.length_cons]; lia
  have hsg : (sgT m).length ≤ 1 := by cases m <;> decide
  have len : (numT m (dtx a) p (lxT mk v)).length ≤ 60 := by
    unfold numT
    rw [List.length_append, List.length_append, List.length_append]; lia
  have hE : -12 ≤ lxE mk v ∧ lxE mk v ≤ 12 := by
    unfold lxE
    have := h.hv
    split <;> lia
  have hfs : (dtx a ++ p).length ≤ 19 := by rw [List.length_append]; lia
  have hdg : Digs (dtx a ++ p) := digs_app (dtx_digs a) p2
  have plain : (decide (p = []) && decide (mk = [])) = true → p = [] ∧ lxT mk v = [] := fun q => by
    rw [Bool.and_eq_true, decide_eq_true_eq, decide_eq_true_eq] at q
    refine ⟨q.1, ?_⟩
    unfold lxT; rw [if_pos q.2]
  by_cases z : val 10 (dtx a ++ p) 0 = 0
  · exact ⟨0, ok, len, bits_zero (by lia) hdg z, .inl rfl, plain⟩
  · by_cases k : (decide (p = []) && decide (mk = [])) = true ∧ a ≤ 2 ^ 53
    · obtain ⟨k1, k2⟩ := k
      have k3 := k1
      rw [Bool.and_eq_true, decide_eq_true_eq, decide_eq_true_eq] at k3
      obtain ⟨e1, e2⟩ := k3
      subst e1
      subst e2
      rw [List.append_nil] at z
      rw [dtx_val] at z
      obtain ⟨M, pp, pm, hD, hB, hs⟩ := bits_plain (m := m) (Nat.pos_of_ne_zero z) (by
        rcases h.ha with h | ⟨h1, h2⟩
        · exact .inl h
        · refine .inr ?_
          have : (2 : Nat) ^ 53 = 9007199254740992 := by decide
          lia)
      refine ⟨dR M pp pm, ok, len, ?_, .inr ⟨M, pp, pm, hD, rfl, fun _ _ => hs⟩, plain⟩
      rw [List.append_nil]
      exact hB
    · obtain ⟨M, pp, pm, hD, hB⟩ := bits_ex (e := lxE mk v - p.length) (m := m) hfs hdg (Nat.pos_of_ne_zero z) (by lia) (by lia)
      exact ⟨dR M pp pm, ok, len, hB, .inr ⟨M, pp, pm, hD, rfl, fun q1 q2 => absurd ⟨q1, q2⟩ k⟩, plain⟩
/-! the law's text -/
section
variable {σ : St} {d : Nat}
theorem law_tail {m : Bool} {a v R : Nat} {p mk : List Nat} {L2 : V} (h : Drawn a p mk v) (hn : LawNum m (dtx a) p (lxT mk v) (lxE mk v) R a (decide (p = []) && decide (mk = []))) :
    execB (callM prog F0 (d + 1)) F0 (dropB 6 p_law_number.body) [some (.ref 0), some (.bool m), some L2, some (.str (dtx a)), some (.str p), some (.int ((v : Int) - 12)), some (.str mk), none, none, none] σ =
      some (.ret (.tup [.str (numT m (dtx a) p (lxT mk v)), .int (sgn m + R), .int a, .bool (decide (p = []) && decide (mk = []))]) σ) := by
  obtain ⟨p1, p2⟩ := h.plen
  have a1 := h.alen
  obtain ⟨x1, x2⟩ := h.xlen
  have m1 := h.mlen
  have hv := h.hv
  have hsg : (sgT m).length ≤ 1 := by cases m <;> decide
  have hpt : (ptT p).length ≤ 4 := by
    unfold ptT
    split
    · simp
    · rw [List.length_cons]; lia
  refine s_set (x := .str ((sgT m ++ dtx a) ++ ptT p)) (σ₁ := σ) ?_ ?_
  · refine ev_adds (σ₁ := σ) (ev_adds (σ₁ := σ) (s := sgT m) (t := dtx a) ?_ rfl (by lia)) ?_ (by rw [List.length_append]; lia)
    · unfold sgT
      cases m with
      | true => simp only [Option.bind_some, Option.map_some, lget_zero, lget_succ, q_m_cst, q_m_loc, q_m_ite, t_bool, ifB_t, if_true]
      | false => simp only [Option.bind_some, Option.map_some, lget_zero, lget_succ, q_m_cst, q_m_loc, q_m_ite, t_bool, ifB_f]; rfl
    · unfold ptT
      by_cases q : p = []
      · rw [if_pos q]
        simp only [Option.bind_some, Option.map_some, lget_zero, lget_succ, q_m_cst, q_m_loc, q_m_bin, q_m_cmp, q_m_ite, t_bool, ifB_f, o_adds, c_nes, decide_true, Bool.not_true, List.length_cons, List.length_nil, List.nil_append, List.cons_append, Nat.reduceAdd, q]
      · rw [if_neg q]
        have g : decide (1 + p.length ≤ 1000000) = true := decide_eq_true (by lia)
        simp only [Option.bind_some, Option.map_some, lget_zero, lget_succ, q_m_cst, q_m_loc, q_m_bin, q_m_cmp, q_m_ite, t_bool, guard_t, ifB_t, o_adds, c_nes, decide_false, Bool.not_false, List.length_cons, List.length_nil, List.nil_append, List.cons_append, q, Nat.zero_add, g]
  have fin : ∀ Λ : Lo, Λ = [some (.ref 0), some (.bool m), some L2, some (.str (dtx a)), some (.str p), some (.int (lxE mk v)), some (.str mk), some (.str (numT m (dtx a) p (lxT mk v))), none, none] →
      execB (callM prog F0 (d + 1)) F0 (dropB 8 p_law_number.body) Λ σ = some (.ret (.tup [.str (numT m (dtx a) p (lxT mk v)), .int (sgn m + R), .int a, .bool (decide (p = []) && decide (mk = []))]) σ) := fun Λ hΛ => by
    subst hΛ
    have hE : -12 ≤ lxE mk v ∧ lxE mk v ≤ 12 := by
      unfold lxE
      split <;> lia
    have hdg : Digs (dtx a ++ p) := digs_app (dtx_digs a) p2
    have hne : dtx a ++ p ≠ [] := fun q => dtx_ne a (List.append_eq_nil_iff.mp q).1
    have i1 := bi_ints (σ := σ) hdg hne (by rw [List.length_append]; lia)
    have i2 := bi_ints (σ := σ) (dtx_digs a) (dtx_ne a) (by lia)
    rw [dtx_val] at i2
    have bl := bi_len (σ := σ) (s := p) (by lia)
    have ga : decide ((dtx a).length + p.length ≤ 1000000) = true := decide_eq_true (by lia)
    refine s_swap (vs := [.int ((val 10 (dtx a ++ p) 0 : Nat) : Int), .int (lxE mk v - p.length)]) (σ₁ := σ) (by simp only [Option.bind_some, Option.map_some, lget_zero, lget_succ, q_m_loc, q_m_bin, q_m_tup, q_m_bi, q_l_nil, q_l_cons, guard_t, o_sub, o_adds, ga, i1, bl]) rfl rfl ?_
    have hb := hn.bits.dbl d σ
    have he : -15 ≤ lxE mk v - p.length ∧ lxE mk v - p.length ≤ 12 := by lia
    have v1 : val 10 (dtx a ++ p) 0 < 2 ^ 76 := Nat.lt_of_lt_of_le (val_lt (radix := 10) (by decide) (dtx a ++ p) 0 0 (by decide) (fun c hc => dig_fig (hdg c hc))) (Nat.pow_le_pow_right (by decide) (by rw [List.length_append]; lia))
    generalize lxE mk v - p.length = e at *
    have t1 : (10 : Int) ^ (max 0 e).toNat = ((hiP e : Nat) : Int) := by rw [show (max 0 e).toNat = e.toNat by lia]; exact p10c e
    have t2 : (10 : Int) ^ (max 0 (0 - e)).toNat = ((loP e : Nat) : Int) := by rw [show (max 0 (0 - e)).toNat = (0 - e).toNat by lia]; exact p10l e
    have g1 : powG 10 (max 0 e) = true := powG10 (by omega) (by lia)
    have g2 : powG 10 (max 0 (0 - e)) = true := powG10 (by lia) (by omega)
    have g3 : mulG ((val 10 (dtx a ++ p) 0 : Nat) : Int) ((hiP e : Nat) : Int) = true := mulG_nat (lt9 v1 (by decide)) (lt9 (hiP_lt (e := e) (k := 20) (by lia)) (by decide))
    refine s_set (x := .int (sgn m + R)) (σ₁ := σ) (by simp only [Option.bind_some, Option.map_some, lget_zero, lget_succ, List.set_cons_zero, List.set_cons_succ, q_m_cst, q_m_loc, q_m_bin, q_m_call, q_m_bi, q_l_nil, q_l_cons, guard_t, o_sub, o_mul, o_pow, bi_max, t1, t2, g1, g2, g3, mulc, hb]) (s_ret ?_)
    by_cases q : p = []
    · simp only [Option.bind_some, Option.map_some, lget_zero, lget_succ, List.set_cons_zero, List.set_cons_succ, q_m_cst, q_m_loc, q_m_cmp, q_m_and, q_m_tup, q_m_bi, q_l_nil, q_l_cons, ifB_t, c_eqs, v_bool, decide_true, i2, q, Bool.true_and]
    · simp only [Option.bind_some, Option.map_some, lget_zero, lget_succ, List.set_cons_zero, List.set_cons_succ, q_m_cst, q_m_loc, q_m_cmp, q_m_and, q_m_tup, q_m_bi, q_l_nil, q_l_cons, ifB_f, c_eqs, v_bool, decide_false, i2, q, Bool.false_and]
  by_cases q : mk = []
  · have e1 : lxT mk v = [] := by unfold lxT; rw [if_pos q]
    have e2 : lxE mk v = 0 := by unfold lxE; rw [if_pos q]
    refine s_if_f (x := .bool false) (σ₁ := σ) (by simp only [Option.bind_some, Option.map_some, lget_zero, lget_succ, List.set_cons_zero, List.set_cons_succ, q_m_cst, q_m_loc, q_m_cmp, c_nes, decide_true, Bool.not_true, q]) rfl (s_set (x := .int 0) (σ₁ := σ) rfl s_nil) (fin _ ?_)
    rw [e1, e2]
    unfold numT
    rw [List.append_nil, ← List.append_assoc]
    rfl
  · have e1 : lxT mk v = mk ++ (lsg v ++ dtx ((v : Int) - 12).natAbs) := by unfold lxT; rw [if_neg q]
    have e2 : lxE mk v = (v : Int) - 12 := by unfold lxE; rw [if_neg q]
    have sT := bi_lift (σ := σ) hv
    generalize hS : (if v < 12 then [45] else []) ++ dtx ((v : Int) - 12).natAbs = S at sT
    have hpl : evalM (callM prog F0 (d + 1)) (.ite (.and (.cmp .GtE (.loc 5) (.cst (.int (0)))) (.cmp .Eq (.bin .Mod (.loc 5) (.cst (.int (2)))) (.cst (.int (0))))) (.cst (.str [43])) (.cst (.str []))) [some (.ref 0), some (.bool m), some L2, some (.str (dtx a)), some (.str p), some (.int ((v : Int) - 12)), some (.str mk), some (.str ((sgT m ++ dtx a) ++ ptT p)), none, none] σ = some (.str (if v < 12 then [] else if v % 2 = 0 then [43] else []), σ) := by
      by_cases c : v < 12
      · have c' : ¬ (0 : Int) ≤ (v : Int) - 12 := by lia
        rw [if_pos c]
        simp only [Option.bind_some, Option.map_some, lget_zero, lget_succ, q_m_cst, q_m_loc, q_m_bin, q_m_cmp, q_m_and, q_m_ite, t_bool, ifB_f, o_mod, c_ge, v_bool, decide_false, c']
      · have c' : (0 : Int) ≤ (v : Int) - 12 := by lia
        rw [if_neg c]
        have ev : (v : Int) - 12 = ((v - 12 : Nat) : Int) := by lia
        have g2 : divG ((v : Int) - 12) 2 = true := divG_nat (b := 2) (by decide) (lt9 (a := 2) (by decide) (by decide))
        have f2 : ((v : Int) - 12).fmod 2 = (((v - 12) % 2 : Nat) : Int) := by rw [ev]; exact fmod_nat (v - 12) 2
        by_cases c2 : v % 2 = 0
        · have c3 : ((((v - 12) % 2 : Nat) : Int) = 0) := by lia
          rw [if_pos c2]
          simp only [Option.bind_some, Option.map_some, lget_zero, lget_succ, q_m_cst, q_m_loc, q_m_bin, q_m_cmp, q_m_and, q_m_ite, t_bool, guard_t, ifB_t, o_mod, c_ge, c_eq, v_bool, decide_true, c', g2, f2, c3]
        · have c3 : ¬ ((((v - 12) % 2 : Nat) : Int) = 0) := by lia
          rw [if_neg c2]
          simp only [Option.bind_some, Option.map_some, lget_zero, lget_succ, q_m_cst, q_m_loc, q_m_bin, q_m_cmp, q_m_and, q_m_ite, t_bool, guard_t, ifB_t, ifB_f, o_mod, c_ge, c_eq, v_bool, decide_true, decide_false, c', g2, f2, c3]
    have hSl : S.length ≤ 3 := by
      rw [← hS, List.length_append]
      split <;> simp only [List.length_cons, List.length_nil] <;> lia
    have hpl2 : (if v < 12 then ([] : List Nat) else if v % 2 = 0 then [43] else []).length ≤ 1 := by
      split
      · decide
      · split <;> decide
    refine s_if_t (x := .bool true) (σ₁ := σ) (by simp only [Option.bind_some, Option.map_some, lget_zero, lget_succ, List.set_cons_zero, List.set_cons_succ, q_m_cst, q_m_loc, q_m_cmp, c_nes, decide_false, Bool.not_false, q]) rfl (s_set (x := .str ((((sgT m ++ dtx a) ++ ptT p) ++ mk) ++ (if v < 12 then [] else if v % 2 = 0 then [43] else []) ++ S)) (σ₁ := σ) ?_ s_nil) (fin _ ?_)
    · refine ev_adds (σ₁ := σ) (ev_adds (σ₁ := σ) (ev_adds (σ₁ := σ) (s := (sgT m ++ dtx a) ++ ptT p) (t := mk) rfl rfl ?_) hpl ?_) ?_ ?_
      · rw [List.length_append, List.length_append]; lia
      · rw [List.length_append, List.length_append, List.length_append]; lia
      · simp only [Option.bind_some, Option.map_some, lget_zero, lget_succ, List.set_cons_zero, List.set_cons_succ, q_m_loc, q_m_bi, q_l_nil, q_l_cons, sT]
      · rw [List.length_append, List.length_append, List.length_append, List.length_append]; lia
    · rw [e2, e1]
      unfold numT
      have : (if v < 12 then ([] : List Nat) else if v % 2 = 0 then [43] else []) ++ S = lsg v ++ dtx ((v : Int) - 12).natAbs := by
        rw [← hS]; unfold lsg
        by_cases c : v < 12
        · rw [if_pos c, if_pos c, if_pos c]; rfl
        · rw [if_neg c, if_neg c, if_neg c]; rfl
      rw [← this]
      simp only [List.append_assoc]
      rfl
end
end Mine
namespace Mine
theorem eq_self_t {x : V} {d : PyData} (h : vpy 6 x = some d) (hs : SeqAt.shaped d = true) : eqD x x = some true := by
  unfold eqD
  rw [h]
  show (if (SeqAt.shaped d && SeqAt.shaped d) = true then some (PyData.eqv d d) else none) = _
  rw [hs]
  exact congrArg some (SeqAt.eqv_refl d (SeqAt.canLay_of_shaped hs))
theorem ne_tt {σ : St} {l : List V} {d : PyData} (h : vpy 6 (.tup l) = some d) (hs : SeqAt.shaped d = true) : cmpS σ .NotEq (.tup l) (.tup l) = some false := by
  unfold cmpS
  show (match (eqD (.tup l) (.tup l)).map (!·) with | some t => some t | none => none) = _
  rw [eq_self_t h hs]; rfl
theorem eq_tt {σ : St} {l : List V} {d : PyData} (h : vpy 6 (.tup l) = some d) (hs : SeqAt.shaped d = true) : cmpS σ .Eq (.tup l) (.tup l) = some true := by
  unfold cmpS
  show (match eqD (.tup l) (.tup l) with | some t => some t | none => none) = _
  rw [eq_self_t h hs]
noncomputable def codesOk (s : List Nat) : Prop := ∀ c ∈ s, c < 1114112
theorem strOk_of {s : List Nat} (h : codesOk s) : PyData.strOk ⟨s.toArray⟩ = true := by
  show s.toArray.all (· < 0x110000) = true
  rw [List.all_toArray, List.all_eq_true]
  intro c hc
  exact decide_eq_true (h c hc)
theorem shp2 {x y : PyData} (hx : x.canLay0 = true) (hy : y.canLay0 = true) (dx : x.depth ≤ 10) (dy : y.depth ≤ 10) : SeqAt.shaped (.tuple [x, y]) = true := by
  show ((x.canLay0 && (y.canLay0 && true)) && decide (max x.depth (max y.depth 0) + 1 ≤ 64)) = true
  rw [hx, hy, decide_eq_true (show max x.depth (max y.depth 0) + 1 ≤ 64 by lia)]
  rfl
theorem lay_s {s : List Nat} (h : codesOk s) : (PyData.str ⟨s.toArray⟩).canLay0 = true := strOk_of h
theorem lay2 {x y : PyData} (hx : x.canLay0 = true) (hy : y.canLay0 = true) : (PyData.tuple [x, y]).canLay0 = true := by
  show (x.canLay0 && (y.canLay0 && true)) = true
  rw [hx, hy]; rfl
theorem ne_ii {σ : St} (a b : Int) : cmpS σ .NotEq (.tup [.int a, .int b]) (.tup [.int a, .int b]) = some false := ne_tt (d := .tuple [.int a, .int b]) rfl (shp2 rfl rfl (Nat.zero_le _) (Nat.zero_le _))
theorem ne_sii {σ : St} {s : List Nat} (h : codesOk s) (a b : Int) : cmpS σ .NotEq (.tup [.tup [.str s, .int a], .int b]) (.tup [.tup [.str s, .int a], .int b]) = some false := ne_tt (d := .tuple [.tuple [.str ⟨s.toArray⟩, .int a], .int b]) rfl (shp2 (lay2 (lay_s h) rfl) rfl (by show (0 : Nat) + 1 ≤ 10; decide) (Nat.zero_le _))
theorem eq_si {σ : St} {s : List Nat} (h : codesOk s) (a : Int) : cmpS σ .Eq (.tup [.str s, .int a]) (.tup [.str s, .int a]) = some true := eq_tt (d := .tuple [.str ⟨s.toArray⟩, .int a]) rfl (shp2 (lay_s h) rfl (Nat.zero_le _) (Nat.zero_le _))
theorem ne_si {σ : St} {s : List Nat} (h : codesOk s) (a : Int) : cmpS σ .NotEq (.tup [.str s, .int a]) (.tup [.str s, .int a]) = some false := ne_tt (d := .tuple [.str ⟨s.toArray⟩, .int a]) rfl (shp2 (lay_s h) rfl (Nat.zero_le _) (Nat.zero_le _))
theorem ne_ss {σ : St} {s t : List Nat} (h : codesOk s) (h2 : codesOk t) : cmpS σ .NotEq (.tup [.str s, .str t]) (.tup [.str s, .str t]) = some false := ne_tt (d := .tuple [.str ⟨s.toArray⟩, .str ⟨t.toArray⟩]) rfl (shp2 (lay_s h) (lay_s h2) (Nat.zero_le _) (Nat.zero_le _))
section
variable {τ : St} {xs : List Int} {k d : Nat}
theorem item_lst {σ : St} {l : List V} {n : Nat} {x : V} (hl : l.length ≤ 1000) (h : l[n]? = some x) : itemV σ (.lst l) (.int (n : Int)) = some x := by
  show (if 0 ≤ ((n : Nat) : Int) ∧ l.length ≤ 1000 then l[((n : Nat) : Int).toNat]? else none) = _
  rw [if_pos ⟨by lia, hl⟩, Int.toNat_natCast, h]
theorem r_law_number (hk : k ≤ 800) (hx : xs.length ≤ 900) : ∃ m a p mk v R, Drawn a p mk v ∧ LawNum m (dtx a) p (lxT mk v) (lxE mk v) R a (decide (p = []) && decide (mk = [])) ∧
    callM prog F0 (d + 2) 446 [.ref 0] (stp k xs τ) = some (.tup [.str (numT m (dtx a) p (lxT mk v)), .int (sgn m + R), .int a, .bool (decide (p = []) && decide (mk = []))], stp (k + 8) xs τ) := by
  obtain ⟨v1, b1, c1⟩ := r_drawI (τ := τ) (xs := xs) (k := k) d 2 2 rfl (by lia) hx (by decide) (by decide)
  obtain ⟨v2, b2, c2⟩ := r_drawI (τ := τ) (xs := xs) (k := k + 1) d 10 10 rfl (by lia) hx (by decide) (by decide)
  obtain ⟨v3, b3, c3⟩ := r_drawI (τ := τ) (xs := xs) (k := k + 1 + 1) d 1000 1000 rfl (by lia) hx (by decide) (by decide)
  obtain ⟨v4, b4, c4⟩ := r_drawI (τ := τ) (xs := xs) (k := k + 1 + 1 + 1) d 9 9 rfl (by lia) hx (by decide) (by decide)
  obtain ⟨v5, b5, c5⟩ := r_drawI (τ := τ) (xs := xs) (k := k + 1 + 1 + 1 + 1) d 3 3 rfl (by lia) hx (by decide) (by decide)
  obtain ⟨v6, b6, c6⟩ := r_drawI (τ := τ) (xs := xs) (k := k + 1 + 1 + 1 + 1 + 1) d 5 5 rfl (by lia) hx (by decide) (by decide)
  obtain ⟨v7, b7, c7⟩ := r_drawI (τ := τ) (xs := xs) (k := k + 1 + 1 + 1 + 1 + 1 + 1) d 25 25 rfl (by lia) hx (by decide) (by decide)
  obtain ⟨v8, b8, c8⟩ := r_drawI (τ := τ) (xs := xs) (k := k + 1 + 1 + 1 + 1 + 1 + 1 + 1) d 3 3 rfl (by lia) hx (by decide) (by decide)
  have g53 : powG 2 53 = true := by decide
  have e53 : (2 : Int) ^ (53 : Int).toNat = 9007199254740992 := by decide
  have e2 : (2 : Nat) ^ 53 = 9007199254740992 := by decide
  obtain ⟨a, ha, hia⟩ : ∃ a : Nat, (a < 1000 ∨ (2 ^ 53 - 1 ≤ a ∧ a ≤ 2 ^ 53 + 7)) ∧ ∀ σ, itemV σ (.lst [.int v2, .int v3, .int (9007199254740992 - 1 + (v4 : Int))]) (.int v5) = some (.int a) := by
    rcases (show v5 = 0 ∨ v5 = 1 ∨ v5 = 2 by lia) with h | h | h <;> subst h
    · exact ⟨v2, .inl (by lia), fun σ => rfl⟩
    · exact ⟨v3, .inl (by omega), fun σ => rfl⟩
    · refine ⟨2 ^ 53 - 1 + v4, .inr (by lia), fun σ => ?_⟩
      have : ((2 ^ 53 - 1 + v4 : Nat) : Int) = 9007199254740992 - 1 + (v4 : Int) := by lia
      rw [this]; rfl
  obtain ⟨p, hp, hip⟩ : ∃ p : List Nat, (p = [] ∨ p = [53] ∨ p = [49, 50, 53] ∨ p = [48] ∨ p = [51]) ∧ ∀ σ, itemV σ (.lst [.str [], .str [53], .str [49, 50, 53], .str [48], .str [51]]) (.int v6) = some (.str p) := by
    rcases (show v6 = 0 ∨ v6 = 1 ∨ v6 = 2 ∨ v6 = 3 ∨ v6 = 4 by lia) with h | h | h | h | h <;> subst h
    · exact ⟨[], by simp, fun σ => rfl⟩
    · exact ⟨[53], by simp, fun σ => rfl⟩
    · exact ⟨[49, 50, 53], by simp, fun σ => rfl⟩
    · exact ⟨[48], by simp, fun σ => rfl⟩
    · exact ⟨[51], by simp, fun σ => rfl⟩
  obtain ⟨mk, hm, him⟩ : ∃ mk : List Nat, (mk = [] ∨ mk = [101] ∨ mk = [69]) ∧ ∀ σ, itemV σ (.lst [.str [], .str [101], .str [69]]) (.int v8) = some (.str mk) := by
    rcases (show v8 = 0 ∨ v8 = 1 ∨ v8 = 2 by lia) with h | h | h <;> subst h
    · exact ⟨[], by simp, fun σ => rfl⟩
    · exact ⟨[101], by simp, fun σ => rfl⟩
    · exact ⟨[69], by simp, fun σ => rfl⟩
  have hD : Drawn a p mk v7 := ⟨ha, hp, hm, b7⟩
  obtain ⟨R, hR⟩ := law_num (m := decide ((v1 : Int) = 1)) hD
  refine ⟨decide ((v1 : Int) = 1), a, p, mk, v7, R, hD, hR, ?_⟩
  have hst : ∀ σ : St, biV σ 7 [.int (a : Int)] = some (.str (dtx a)) := fun σ => bi_strn (Nat.lt_trans (m := 2 ^ 54) (by
    have : (2 : Nat) ^ 54 = 18014398509481984 := by decide
    rcases ha with h | h <;> lia) (Nat.pow_lt_pow_right (by decide) (by decide)))
  refine run_eq (d := d + 1) (a := 446) (args := [.ref 0]) (o := .ret (.tup [.str (numT (decide ((v1 : Int) = 1)) (dtx a) p (lxT mk v7)), .int (sgn (decide ((v1 : Int) = 1)) + R), .int a, .bool (decide (p = []) && decide (mk = []))]) (stp (k + 8) xs τ)) (Λ := [some (.ref 0), none, none, none, none, none, none, none, none, none]) (f := p_law_number) rfl rfl rfl ?_
  refine s_set (x := .bool (decide ((v1 : Int) = 1))) (σ₁ := stp (k + 1) xs τ) (by simp only [Option.bind_some, Option.map_some, lget_zero, q_m_cst, q_m_loc, q_m_cmp, q_m_call, q_l_nil, q_l_cons, c_eq, c1]) ?_
  refine s_set (x := .lst [.int v2, .int v3, .int (9007199254740992 - 1 + (v4 : Int))]) (σ₁ := stp (k + 1 + 1 + 1 + 1) xs τ) (by simp only [Option.bind_some, Option.map_some, lget_zero, List.set_cons_zero, List.set_cons_succ, q_m_cst, q_m_loc, q_m_bin, q_m_ilst, q_m_call, q_l_nil, q_l_cons, guard_t, o_add, o_sub, o_pow, c2, c3, c4, g53, e53]) ?_
  refine s_set (x := .str (dtx a)) (σ₁ := stp (k + 1 + 1 + 1 + 1 + 1) xs τ) (by simp only [Option.bind_some, Option.map_some, lget_zero, lget_succ, List.set_cons_zero, List.set_cons_succ, q_m_cst, q_m_loc, q_m_call, q_m_bi, q_m_item, q_l_nil, q_l_cons, c5, hia, hst]) ?_
  refine s_set (x := .str p) (σ₁ := stp (k + 1 + 1 + 1 + 1 + 1 + 1) xs τ) (by simp only [Option.bind_some, Option.map_some, lget_zero, List.set_cons_zero, List.set_cons_succ, q_m_cst, q_m_loc, q_m_ilst, q_m_call, q_m_item, q_l_nil, q_l_cons, c6, hip]) ?_
  refine s_set (x := .int ((v7 : Int) - 12)) (σ₁ := stp (k + 1 + 1 + 1 + 1 + 1 + 1 + 1) xs τ) (by simp only [Option.bind_some, Option.map_some, lget_zero, List.set_cons_zero, List.set_cons_succ, q_m_cst, q_m_loc, q_m_bin, q_m_call, q_l_nil, q_l_cons, o_sub, c7]) ?_
  refine s_set (x := .str mk) (σ₁ := stp (k + 1 + 1 + 1 + 1 + 1 + 1 + 1 + 1) xs τ) (by simp only [Option.bind_some, Option.map_some, lget_zero, List.set_cons_zero, List.set_cons_succ, q_m_cst, q_m_loc, q_m_ilst, q_m_call, q_m_item, q_l_nil, q_l_cons, c8, him]) ?_
  exact law_tail hD hR
end
end Mine
namespace Mine
/-! ## number and array as text -/
section
variable {σ : St} {d : Nat}
theorem r_rows0 {t : List Nat} (h : t.length ≤ 900) : callM prog F0 (d + 1) 399 [.str [91], .str [93], .lst [.str t], .str [], .str []] σ = some (.str ([91] ++ t ++ [93]), σ) := by
  refine run_eq (d := d) (a := 399) (args := [.str [91], .str [93], .lst [.str t], .str [], .str []]) (o := .ret (.str ([91] ++ t ++ [93])) σ) (Λ := [some (.str [91]), some (.str [93]), some (.lst [.str t]), some (.str []), some (.str []), none]) (f := p_json_rows) rfl rfl rfl ?_
  have hl : biV σ 0 [.lst [.str t]] = some (.int 1) := rfl
  have c : ¬ ((1 : Int) = 0) := by decide
  refine s_if_f (x := .bool false) (σ₁ := σ) (by simp only [Option.bind_some, Option.map_some, lget_zero, lget_succ, q_m_cst, q_m_loc, q_m_cmp, q_m_bi, q_l_nil, q_l_cons, c_eq, decide_false, hl, c]) rfl s_nil ?_
  have e : (([] : List Nat) = []) := rfl
  refine s_if_rt (x := .bool true) (σ₁ := σ) (by simp only [Option.bind_some, Option.map_some, lget_zero, lget_succ, q_m_cst, q_m_loc, q_m_cmp, c_eqs, decide_true, e]) rfl (s_ret ?_)
  have hj : joinFits [44] [t] = true := decide_eq_true (by simp; lia)
  have hv : (listV σ (.lst [.str t])).bind strsOf = some [t] := rfl
  refine ev_adds (σ₁ := σ) (ev_adds (σ₁ := σ) (s := [91]) (t := t) rfl ?_ ?_) rfl ?_
  · simp only [Option.bind_some, Option.map_some, lget_zero, lget_succ, q_m_cst, q_m_loc, q_m_join, guard_t, v_str, hv, hj]; rfl
  · simp only [List.length_cons, List.length_nil]; lia
  · simp only [List.length_cons, List.length_nil, List.length_append]; lia
theorem r_laid_num {B : Int} {t : List Nat} {σ' : St} {gap ind : List Nat} (h : callM prog F0 (d + 1) 392 [.tup [tNum, .int B]] σ = some (.str t, σ')) : callM prog F0 (d + 2) 404 [.tup [tNum, .int B], .str gap, .str ind] σ = some (.str t, σ') := by
  refine run_eq (d := d + 1) (a := 404) (args := [.tup [tNum, .int B], .str gap, .str ind]) (o := .ret (.str t) σ') (Λ := [some (.tup [tNum, .int B]), some (.str gap), some (.str ind), none, none, none, none, none, none]) (f := p_json_laid) rfl rfl rfl ?_
  refine s_tset (vs := [tNum, .int B]) (σ₁ := σ) rfl rfl ?_
  refine s_if_f (x := .bool false) (σ₁ := σ) rfl rfl s_nil ?_
  exact s_if_rt (x := .bool true) (σ₁ := σ) rfl rfl (s_ret (by simp only [Option.bind_some, Option.map_some, lget_zero, List.set_cons_zero, List.set_cons_succ, q_m_loc, q_m_call, q_l_nil, q_l_cons, h]))
theorem r_laid_arr {B : Int} {t : List Nat} {τ : St} (hl : t.length ≤ 900) (h : callM prog F0 (d + 1) 392 [.tup [tNum, .int B]] [] = some (.str t, τ)) : callM prog F0 (d + 3) 404 [.tup [.str [97, 114, 114, 97, 121], .lst [.tup [tNum, .int B]]], .str [], .str []] σ = some (.str ([91] ++ t ++ [93]), σ) := by
  refine run_eq (d := d + 2) (a := 404) (args := [.tup [.str [97, 114, 114, 97, 121], .lst [.tup [tNum, .int B]]], .str [], .str []]) (o := .ret (.str ([91] ++ t ++ [93])) σ) (Λ := [some (.tup [.str [97, 114, 114, 97, 121], .lst [.tup [tNum, .int B]]]), some (.str []), some (.str []), none, none, none, none, none, none]) (f := p_json_laid) rfl rfl rfl ?_
  refine s_tset (vs := [.str [97, 114, 114, 97, 121], .lst [.tup [tNum, .int B]]]) (σ₁ := σ) rfl rfl ?_
  refine s_if_rt (x := .bool true) (σ₁ := σ) rfl rfl (s_ret ?_)
  have hn := r_laid_num (gap := []) (ind := []) h
  have hr := r_rows0 (σ := σ) (d := d + 1) hl
  have hc : evalM (callM prog F0 (d + 2)) (.comp (.loc 4) [1, 2] (.call 404 (.cons (.loc 0) (.cons (.loc 1) (.cons (.bin .Add (.loc 2) (.loc 1)) .nil))))) [some (.tup [.str [97, 114, 114, 97, 121], .lst [.tup [tNum, .int B]]]), some (.str []), some (.str []), some (.str [97, 114, 114, 97, 121]), some (.lst [.tup [tNum, .int B]]), none, none, none, none] σ = some (.lst [.str t], σ) := by
    rw [q_m_comp, q_m_loc]
    show (mapO _ [V.tup [tNum, .int B]]).bind _ = _
    have he : evalM (callM prog F0 (d + 2)) (.call 404 (.cons (.loc 0) (.cons (.loc 1) (.cons (.bin .Add (.loc 2) (.loc 1)) .nil)))) [some (.tup [tNum, .int B]), some (.str []), some (.str [])] [] = some (.str t, τ) := by
      rw [q_m_call]
      show callM prog F0 (d + 2) 404 [.tup [tNum, .int B], .str [], .str ([] ++ [])] [] = _
      exact hn
    show (((evalM (callM prog F0 (d + 2)) (.call 404 (.cons (.loc 0) (.cons (.loc 1) (.cons (.bin .Add (.loc 2) (.loc 1)) .nil)))) [some (.tup [tNum, .int B]), some (.str []), some (.str [])] []).map (·.1)).bind fun y => (mapO _ []).bind fun l => some (y :: l)).bind _ = _
    rw [he]
    rfl
  rw [q_m_call, q_l_cons, q_m_cst, Option.bind_some, q_l_cons, q_m_cst, Option.bind_some, q_l_cons]
  show (((((evalM (callM prog F0 (d + 2)) (.comp (.loc 4) [1, 2] (.call 404 (.cons (.loc 0) (.cons (.loc 1) (.cons (.bin .Add (.loc 2) (.loc 1)) .nil))))) [some (.tup [.str [97, 114, 114, 97, 121], .lst [.tup [tNum, .int B]]]), some (.str []), some (.str []), some (.str [97, 114, 114, 97, 121]), some (.lst [.tup [tNum, .int B]]), none, none, none, none] σ).bind _).map _).map _)).bind _ = _
  rw [hc]
  exact hr
theorem r_show_json_arr {B : Int} {t : List Nat} {τ : St} (hl : t.length ≤ 900) (h : callM prog F0 (d + 1) 392 [.tup [tNum, .int B]] [] = some (.str t, τ)) : callM prog F0 (d + 4) 411 [.tup [.str [97, 114, 114, 97, 121], .lst [.tup [tNum, .int B]]], .str []] σ = some (.str ([91] ++ t ++ [93]), σ) := by
  refine run_eq (d := d + 3) (a := 411) (args := [.tup [.str [97, 114, 114, 97, 121], .lst [.tup [tNum, .int B]]], .str []]) (o := .ret (.str ([91] ++ t ++ [93])) σ) (Λ := [some (.tup [.str [97, 114, 114, 97, 121], .lst [.tup [tNum, .int B]]]), some (.str [])]) (f := p_show_json) rfl rfl rfl ?_
  refine s_if_f (x := .bool false) (σ₁ := σ) rfl rfl s_nil (s_ret ?_)
  have := r_laid_arr (σ := σ) hl h
  simp only [Option.bind_some, Option.map_some, lget_zero, lget_succ, q_m_cst, q_m_loc, q_m_call, q_l_nil, q_l_cons, List.nil_append, List.cons_append, this]
/-! ## numbers are right -/
theorem head_num {m : Bool} {w p x rest : List Nat} {E : Int} (h : NumOk w p x E) : ∃ c r, numT m w p x ++ rest = c :: r ∧ (c = 45 ∨ (48 ≤ c ∧ c ≤ 57)) := by
  cases m with
  | true => exact ⟨45, _, rfl, .inl rfl⟩
  | false =>
    cases w with
    | nil => exact absurd rfl h.h0
    | cons c w => exact ⟨c, _, rfl, .inr (h.hw c (.head _))⟩
theorem rest_none : restOk [] := fun c r e => by cases e
theorem rest_32 : restOk [32] := fun c r e => by injection e with e _; subst e; decide
theorem rest_44 : restOk [44] := fun c r e => by injection e with e _; subst e; decide
theorem r_read_num {m : Bool} {w p x rest : List Nat} {E : Int} {R : Nat} (h : NumOk w p x E) (hr : restOk rest) (hl : (numT m w p x ++ rest).length ≤ 1000) (hR : R < 2 ^ 63) (hf : ∀ (d : Nat) (σ : St), callM prog F0 (d + 4) 126 [.str (w ++ p), .int (E - p.length)] σ = some (.int R, σ)) :
    callM prog F0 (d + 6) 225 [.str (numT m w p x ++ rest), .int 0] σ = some (.tup [.tup [tNum, .int (sgn m + R)], .int (numT m w p x).length], σ) :=
  r_plain_num (d := d + 3) hl (head_num h) (r_number m w p x rest E R h hr hl hR (hf d σ))
theorem mod63 {m : Bool} {R : Nat} (h : R < 2 ^ 63) : (sgn m + (R : Int)).fmod 9223372036854775808 = (R : Int) := by
  rw [sgn_nat]
  have := fmod_nat (sg m * 2 ^ 63 + R) (2 ^ 63)
  rw [lo63 h] at this
  exact this
theorem codes_num : codesOk [110, 117, 109, 98, 101, 114] := by intro c hc; simp at hc; lia
theorem Dbl.len {M pp pm : Nat} (h : Dbl M pp pm) (m : Bool) : ∃ w p x E, shT m M pp pm = numT m w p x ∧ NumOk w p x E ∧ (numT m w p x).length ≤ 700 ∧ ∀ (d : Nat) (σ : St), callM prog F0 (d + 4) 126 [.str (w ++ p), .int (E - p.length)] σ = some (.int (dR M pp pm), σ) := by
  obtain ⟨w, p, x, E, h1, h2, h3, h4⟩ := shown_back h
  obtain ⟨z1, z2⟩ := h.sizes
  refine ⟨w, p, x, E, by unfold shT numT; rw [h1], h2, ?_, h4⟩
  unfold numT
  rw [← h1, List.length_append]
  have hsg : (sgT m).length ≤ 1 := by cases m <;> decide
  have hP := h.place
  have := fig_len (sD M pp pm)
  have hb : (sP M pp pm - 1).natAbs < 2 ^ 10 := Nat.lt_of_le_of_lt (m := 500) (by lia) (by decide)
  have hdl := dLen_le hb (by decide)
  unfold lay
  split
  · rw [List.length_append, List.length_replicate]; lia
  · split
    · rw [List.length_append, List.length_append, List.length_take, List.length_drop, List.length_singleton]; omega
    · split
      · rw [List.length_append, List.length_append, List.length_replicate]; simp only [List.length_cons, List.length_nil]; lia
      · unfold wexp sexp
        rw [List.length_append, List.length_append, List.length_append, List.length_append, List.length_take, dtx_len]
        split <;> split <;> simp only [List.length_cons, List.length_nil, List.length_append, List.length_drop] <;> lia
theorem r_number_right {τ : St} {xs : List Int} {k : Nat} (hk : k ≤ 800) (hx : xs.length ≤ 900) : ∃ τ', callM prog F0 (d + 13) 453 [.ref 0] (stp k xs τ) = some (.bool true, stp (k + 8) xs τ') := by
  obtain ⟨m, a, p, mk, v, R, hD, hN, hc⟩ := r_law_number (τ := τ) (xs := xs) (k := k) (d := d + 10) hk hx
  generalize hS : stp (k + 8) xs τ = S at *
  generalize hpl : (decide (p = []) && decide (mk = [])) = pl at *
  generalize lxT mk v = x at *
  generalize lxE mk v = E at *
  obtain ⟨n1, n2, n3, n4, n5⟩ := hN
  have hR : R < 2 ^ 63 ∧ (R : Int) < 9218868437227405312 := by
    rcases n4 with n4 | ⟨M, pp, pm, h, n4, _⟩
    · subst n4; exact ⟨by decide, by decide⟩
    · subst n4; exact ⟨h.lt63, by have := h.ltI; lia⟩
  have l32 : (numT m (dtx a) p x ++ [32]).length ≤ 1000 := by rw [List.length_append, List.length_singleton]; lia
  have l44 : (numT m (dtx a) p x ++ [44]).length ≤ 1000 := by rw [List.length_append, List.length_singleton]; lia
  have c204 : callM prog F0 (d + 12) 204 [.str (numT m (dtx a) p x ++ [32]), .int 0] S = some (.tup [.int (sgn m + R), .int (numT m (dtx a) p x).length], S) := r_number (d := d + 7) m (dtx a) p x [32] E R n1 rest_32 l32 hR.1 (n3.dec (d + 7) S)
  have c225 : callM prog F0 (d + 12) 225 [.str (numT m (dtx a) p x ++ [44]), .int 0] S = some (.tup [.tup [tNum, .int (sgn m + R)], .int (numT m (dtx a) p x).length], S) := r_read_num (d := d + 6) n1 rest_44 l44 hR.1 n3.dec
  have bl := bi_len (σ := S) (s := numT m (dtx a) p x) (by lia)
  have g1 : decide ((numT m (dtx a) p x).length + 1 ≤ 1000000) = true := decide_eq_true (by lia)
  have fin : (∃ τ', execB (callM prog F0 (d + 12)) F0 (dropB 2 p_law_number_right.body) [some (.ref 0), some (.str (numT m (dtx a) p x)), some (.int (sgn m + R)), some (.int a), some (.bool pl), none] S = some (.ret (.bool true) (stp (k + 8) xs τ'))) → ∃ τ', callM prog F0 (d + 13) 453 [.ref 0] (stp k xs τ) = some (.bool true, stp (k + 8) xs τ') := by
    rintro ⟨τ', h⟩
    refine ⟨τ', ?_⟩
    refine run_eq (d := d + 12) (a := 453) (args := [.ref 0]) (o := .ret (.bool true) (stp (k + 8) xs τ')) (Λ := [some (.ref 0), none, none, none, none, none]) (f := p_law_number_right) rfl rfl rfl ?_
    refine s_tset (vs := [.str (numT m (dtx a) p x), .int (sgn m + R), .int a, .bool pl]) (σ₁ := S) (by simp only [Option.bind_some, Option.map_some, lget_zero, q_m_loc, q_m_call, q_l_nil, q_l_cons, hc]) rfl ?_
    refine s_if_f (x := .bool false) (σ₁ := S) ?_ rfl s_nil h
    have ns : cmpS S .NotEq (.tup [.tup [tNum, .int (sgn m + R)], .int (numT m (dtx a) p x).length]) (.tup [.tup [tNum, .int (sgn m + R)], .int (numT m (dtx a) p x).length]) = some false := ne_sii codes_num _ _
    change cmpS S .NotEq (.tup [.tup [.str [110, 117, 109, 98, 101, 114], .int (sgn m + R)], .int (numT m (dtx a) p x).length]) (.tup [.tup [.str [110, 117, 109, 98, 101, 114], .int (sgn m + R)], .int (numT m (dtx a) p x).length]) = some false at ns
    change _ = some (V.tup [.tup [.str [110, 117, 109, 98, 101, 114], .int (sgn m + R)], .int (numT m (dtx a) p x).length], S) at c225
    simp only [Option.bind_some, Option.map_some, lget_zero, lget_succ, List.set_cons_zero, List.set_cons_succ, q_m_cst, q_m_loc, q_m_bin, q_m_cmp, q_m_or, q_m_tup, q_m_call, q_m_bi, q_l_nil, q_l_cons, guard_t, ifB_f, o_adds, v_bool, List.length_cons, List.length_nil, Nat.zero_add, g1, c204, c225, bl, ne_ii, ns]
  apply fin
  have p63 : powG 2 63 = true := by decide
  have e63 : (2 : Int) ^ (63 : Int).toNat = 9223372036854775808 := by decide
  have p53 : powG 2 53 = true := by decide
  have e53 : (2 : Int) ^ (53 : Int).toNat = 9007199254740992 := by decide
  have d63 : divG (sgn m + R) 9223372036854775808 = true := divG_nat (b := 9223372036854775808) (by decide) (lt9 (a := 64) (by decide) (by decide))
  have m63 := mod63 (m := m) hR.1
  rcases n4 with n4 | ⟨M, pp, pm, h, n4, n6⟩
  · refine ⟨τ, ?_⟩
    rw [hS]
    subst n4
    have c392 : callM prog F0 (d + 12) 392 [.tup [tNum, .int (sgn m + (0 : Nat))]] S = some (.str [48], S) := r_plain_text (d := d + 9) hR.1 hR.2 (r_show0 (d := d + 7))
    change callM prog F0 (d + 12) 392 [.tup [.str [110, 117, 109, 98, 101, 114], .int (sgn m + (0 : Nat))]] S = some (.str [48], S) at c392
    refine s_set (x := .str [48]) (σ₁ := S) (by
      rw [q_m_call, q_l_cons, q_m_tup, q_l_cons, q_m_cst, Option.bind_some, q_l_cons, q_m_loc]
      exact c392) ?_
    refine s_if_rt (x := .bool true) (σ₁ := S) ?_ rfl (s_ret (by simp only [Option.bind_some, Option.map_some, lget_zero, lget_succ, List.set_cons_zero, List.set_cons_succ, q_m_cst, q_m_loc, q_m_cmp, c_eqs, decide_true]))
    have z : (((0 : Nat) : Int) = 0) := rfl
    clear hc n3 c204 c225 fin c392 hR
    generalize sgn m + ((0 : Nat) : Int) = B at *
    simp only [Option.bind_some, Option.map_some, lget_zero, lget_succ, List.set_cons_zero, List.set_cons_succ, q_m_cst, q_m_loc, q_m_bin, q_m_cmp, guard_t, o_mod, o_pow, c_eq, decide_true, p63, e63, d63, m63, z]
  · obtain ⟨w', p', x', E', s1, s2, s3, s4⟩ := h.len m
    have hsh : ∀ (D : Nat) (σ : St), callM prog F0 (D + 6) 392 [.tup [tNum, .int (sgn m + dR M pp pm)]] σ = some (.str (shT m M pp pm), σ ++ [.list (figV (sD M pp pm))]) := fun D σ => r_plain_text (d := D + 3) h.lt63 (by have := h.ltI; lia) (r_show (d := D) h)
    subst n4
    have c392 := hsh (d + 6) S
    have rd : Reads (d + 9) (shT m M pp pm) [tNum, .int (sgn m + dR M pp pm)] (shT m M pp pm).length [] := by
      refine ⟨by rw [s1]; lia, ?_, fun σ => ⟨[], ?_⟩, List.drop_length, fun _ q => absurd q List.not_mem_nil⟩
      · obtain ⟨c, r, e, hc⟩ := head_num (m := m) (rest := []) s2
        rw [List.append_nil] at e
        refine ⟨c, r, by rw [s1]; exact e, ?_, by lia, by lia⟩
        unfold blank; lia
      · have := r_read_num (d := d + 3) (σ := σ) (m := m) (rest := []) s2 rest_none (by rw [List.append_nil]; lia) h.lt63 s4
        rw [List.append_nil] at this
        rw [List.append_nil, s1]
        exact this
    obtain ⟨τr, hrd⟩ := r_read (d := d + 7) (σ := S ++ [.list (figV (sD M pp pm))]) rd
    have c411 := r_show_json_arr (d := d + 8) (σ := S ++ [.list (figV (sD M pp pm))] ++ τr) (by rw [s1]; lia) (hsh (d + 3) [])
    refine ⟨τ ++ [.list (figV (sD M pp pm))] ++ τr, ?_⟩
    have eS : stp (k + 8) xs (τ ++ [.list (figV (sD M pp pm))] ++ τr) = S ++ [.list (figV (sD M pp pm))] ++ τr := by rw [← hS]; unfold stp; simp
    rw [eS]
    refine s_set (x := .str (shT m M pp pm)) (σ₁ := S ++ [.list (figV (sD M pp pm))]) (by
      rw [q_m_call, q_l_cons, q_m_tup, q_l_cons, q_m_cst, Option.bind_some, q_l_cons, q_m_loc]
      exact c392) ?_
    refine s_if_f (x := .bool false) (σ₁ := S ++ [.list (figV (sD M pp pm))]) ?_ rfl s_nil ?_
    · have z : ¬ ((dR M pp pm : Int) = 0) := by have := h.pos; lia
      simp only [Option.bind_some, Option.map_some, lget_zero, lget_succ, List.set_cons_zero, List.set_cons_succ, q_m_cst, q_m_loc, q_m_bin, q_m_cmp, guard_t, o_mod, o_pow, c_eq, decide_false, p63, e63, d63, m63, z]
    refine s_if_f (x := .bool false) (σ₁ := S ++ [.list (figV (sD M pp pm))]) ?_ rfl s_nil ?_
    · cases pl with
      | false => simp only [Option.bind_some, Option.map_some, lget_zero, lget_succ, List.set_cons_zero, List.set_cons_succ, q_m_cst, q_m_loc, q_m_bin, q_m_cmp, q_m_and, ifB_f, o_pow, c_nes, v_bool]
      | true =>
        by_cases q : a ≤ 2 ^ 53
        · have q' : (a : Int) ≤ 9007199254740992 := by have : (2 : Nat) ^ 53 = 9007199254740992 := by decide
                                                       lia
          have e : shT m M pp pm = numT m (dtx a) p x := by
            obtain ⟨e1, e2⟩ := n5 rfl
            have e3 := n6 rfl q
            unfold shw at e3
            unfold shT numT ptT
            rw [e3, e1, e2, if_pos rfl, List.append_nil, List.append_nil]
          simp only [Option.bind_some, Option.map_some, lget_zero, lget_succ, List.set_cons_zero, List.set_cons_succ, q_m_cst, q_m_loc, q_m_bin, q_m_cmp, q_m_and, guard_t, ifB_t, o_pow, c_le, c_nes, v_bool, decide_true, Bool.not_true, p53, e53, q', e]
        · have q' : ¬ (a : Int) ≤ 9007199254740992 := by have : (2 : Nat) ^ 53 = 9007199254740992 := by decide
                                                         lia
          simp only [Option.bind_some, Option.map_some, lget_zero, lget_succ, List.set_cons_zero, List.set_cons_succ, q_m_cst, q_m_loc, q_m_bin, q_m_cmp, q_m_and, guard_t, ifB_t, ifB_f, o_pow, c_le, c_nes, v_bool, decide_false, p53, e53, q']
    refine s_ret ?_
    have e1 : cmpS (S ++ [.list (figV (sD M pp pm))] ++ τr) .Eq (.tup [tNum, .int (sgn m + dR M pp pm)]) (.tup [tNum, .int (sgn m + dR M pp pm)]) = some true := eq_si codes_num _
    have ls : decide (1 + (shT m M pp pm).length ≤ 1000000) = true := decide_eq_true (by rw [s1]; lia)
    have ls2 : decide (([91] ++ shT m M pp pm).length + 1 ≤ 1000000) = true := decide_eq_true (by rw [s1, List.length_append, List.length_singleton]; lia)
    unfold tNum at hrd e1 c411
    rw [List.singleton_append] at ls2
    simp only [List.cons_append, List.nil_append] at c411
    simp only [Option.bind_some, Option.map_some, lget_zero, lget_succ, List.set_cons_zero, List.set_cons_succ, q_m_cst, q_m_loc, q_m_bin, q_m_cmp, q_m_and, q_m_tup, q_m_ilst, q_m_call, q_l_nil, q_l_cons, guard_t, ifB_t, o_adds, v_bool, List.length_cons, List.length_nil, List.nil_append, List.cons_append, hrd, e1, c411, Nat.zero_add, ls]
    rw [List.length_cons] at ls2
    simp only [Option.bind_some, Option.map_some, guard_t, c_eqs, decide_true, ls2]
end
end Mine
namespace Mine
/-! ## strings are read -/
noncomputable def chV (cs : List Nat) : List V := cs.map fun c => .str [c]
theorem strsOf_chV : ∀ cs : List Nat, strsOf (chV cs) = some (cs.map fun c => [c])
  | [] => rfl
  | c :: cs => by
    show (strsOf (chV cs)).map ([c] :: ·) = _
    rw [strsOf_chV cs]; rfl
theorem joinL_chV : ∀ cs : List Nat, joinL [] (cs.map fun c => [c]) = cs
  | [] => rfl
  | [c] => rfl
  | c :: e :: cs => by
    have := joinL_chV (e :: cs)
    show [c] ++ [] ++ joinL [] ((e :: cs).map fun c => [c]) = _
    rw [this]; rfl
theorem joinFits_chV (cs : List Nat) (h : cs.length ≤ 900) : joinFits [] (cs.map fun c => [c]) = true := by
  unfold joinFits
  have : ((cs.map fun c => [c]).map (·.length)).sum = cs.length := by
    clear h
    induction cs with
    | nil => rfl
    | cons c ds ih => simp only [List.map_cons, List.sum_cons, List.length_cons, List.length_nil] at *; lia
  rw [this]
  simp; lia
noncomputable def hexL : List Nat := [48, 49, 50, 51, 52, 53, 54, 55, 56, 57, 97, 98, 99, 100, 101, 102, 65, 66, 67, 68, 69, 70]
theorem hex_fig {h : Nat} (q : h ∈ hexL) : fig h < 16 := by
  have : ∀ h ∈ hexL, fig h < 16 := by decide
  exact this h q
inductive Pc : List Nat → Nat → Prop where
  | plain (c : Nat) : c ≠ 34 → c ≠ 92 → 32 ≤ c → Pc [c] c
  | short (e c : Nat) : e ≠ 117 → escTab.lookup [e] = some [c] → Pc [92, e] c
  | hex (h1 h2 h3 h4 c : Nat) : h1 ∈ hexL → h2 ∈ hexL → h3 ∈ hexL → h4 ∈ hexL → val 16 [h1, h2, h3, h4] 0 = c → c < 1114112 → Pc [92, 117, h1, h2, h3, h4] c
theorem pc_head {W : List Nat} {c : Nat} (h : Pc W c) : ∃ a r, W = a :: r ∧ a ≠ 34 := by
  cases h with
  | plain _ q1 q2 q3 => exact ⟨c, [], rfl, q1⟩
  | short e _ q1 q2 => exact ⟨92, _, rfl, by decide⟩
  | hex h1 h2 h3 h4 _ q1 q2 q3 q4 q5 q6 => exact ⟨92, _, rfl, by decide⟩
section
variable {σ : St} {d n : Nat} {l : List Nat}
theorem r_sign1 {c : Nat} {r : List Nat} (hl : l.length ≤ 1000) (h : l.drop n = c :: r) : callM prog F0 (d + 1) 190 [.str l, .int n] σ = some (.str [c], σ) := by
  have := r_sign d n l σ hl
  rw [h] at this
  exact this
theorem r_hex {h1 h2 h3 h4 c : Nat} {r : List Nat} (hl : l.length ≤ 1000) (hd : l.drop n = h1 :: h2 :: h3 :: h4 :: r) (q1 : h1 ∈ hexL) (q2 : h2 ∈ hexL) (q3 : h3 ∈ hexL) (q4 : h4 ∈ hexL) (hv : val 16 [h1, h2, h3, h4] 0 = c) (hc : c < 1114112) :
    callM prog F0 (d + 3) 211 [.str l, .int n] σ = some (.str [c], σ) := by
  obtain ⟨a1, b1, e1⟩ := drop_at hd
  obtain ⟨a2, b2, e2⟩ := drop_at b1
  obtain ⟨a3, b3, e3⟩ := drop_at b2
  obtain ⟨a4, b4, e4⟩ := drop_at b3
  have body : ∀ (j h : Nat) (r : List Nat), l.drop j = h :: r → h ∈ hexL → execB (callM prog F0 (d + 2)) F0 lb_json_hex_unit_0 [some (.str l), some (.int n), some (.int j)] σ = some (.next [some (.str l), some (.int n), some (.int j)] σ) := fun j h r hj hh => by
    have s := r_sign1 (d := d + 1) (σ := σ) hl hj
    obtain ⟨a, _, _⟩ := drop_at hj
    have ne : ¬ ([h] = []) := by simp
    unfold hexL at hh
    exact s_if_f (x := .bool false) (σ₁ := σ) (by simp only [Option.bind_some, Option.map_some, lget_zero, lget_succ, q_m_cst, q_m_loc, q_m_cmp, q_m_or, q_m_call, q_m_item, q_l_nil, q_l_cons, ifB_f, c_eqs, c_nin1, v_bool, decide_true, decide_false, Bool.not_true, s, ne, item_str a hl, hh]) rfl s_nil s_nil
  refine run_eq (d := d + 2) (a := 211) (args := [.str l, .int n]) (o := .ret (.str [c]) σ) (Λ := [some (.str l), some (.int n), none]) (f := p_json_hex_unit) rfl rfl rfl ?_
  have sm1 : small62 (n : Int) = true := by unfold small62; rw [Int.natAbs_natCast]; exact decide_eq_true (by lia)
  have sm2 : small62 ((n : Int) + 4) = true := by unfold small62; exact decide_eq_true (by lia)
  have e4' : ((n : Int) + 4 - (n : Int)).toNat = 4 := by lia
  refine s_for1 (σ₁ := σ) (vs := [.int (n : Nat), .int ((n + 1 : Nat) : Int), .int ((n + 1 + 1 : Nat) : Int), .int ((n + 1 + 1 + 1 : Nat) : Int)]) (Λ₁ := [some (.str l), some (.int n), some (.int ((n + 1 + 1 + 1 : Nat) : Int))]) (σ₂ := σ) ?_ ?_ ?_
  · simp only [Option.bind_some, Option.map_some, lget_zero, lget_succ, q_m_cst, q_m_loc, q_m_bin, it_range, guard_t, o_add, v_int, sm1, sm2, Bool.and_self, e4']
    have : (List.range 4).map (fun (k : Nat) => V.int ((n : Int) + k)) = [.int (n : Nat), .int ((n + 1 : Nat) : Int), .int ((n + 1 + 1 : Nat) : Int), .int ((n + 1 + 1 + 1 : Nat) : Int)] := by
      show [V.int ((n : Int) + (0 : Nat)), V.int ((n : Int) + (1 : Nat)), V.int ((n : Int) + (2 : Nat)), V.int ((n : Int) + (3 : Nat))] = _
      rw [show (n : Int) + ((0 : Nat) : Int) = ((n : Nat) : Int) by lia, show (n : Int) + ((1 : Nat) : Int) = ((n + 1 : Nat) : Int) by lia, show (n : Int) + ((2 : Nat) : Int) = ((n + 1 + 1 : Nat) : Int) by lia, show (n : Int) + ((3 : Nat) : Int) = ((n + 1 + 1 + 1 : Nat) : Int) by lia]
    rw [this]
  · simp only [forM_cons, forM_nil, Option.bind_some, List.set_cons_zero, List.set_cons_succ, thn_n, body n h1 _ hd q1, body (n + 1) h2 _ b1 q2, body (n + 1 + 1) h3 _ b2 q3, body (n + 1 + 1 + 1) h4 _ b3 q4]
  · have hw := r_worth d n (n + 4) 16 l [h1, h2, h3, h4] r σ hl (by decide) hd (by
      intro x hx
      simp only [List.mem_cons, List.not_mem_nil, or_false] at hx
      rcases hx with rfl | rfl | rfl | rfl
      · exact hex_fig q1
      · exact hex_fig q2
      · exact hex_fig q3
      · exact hex_fig q4) rfl (by lia)
    rw [hv] at hw
    have e5 : (n : Int) + 4 = ((n + 4 : Nat) : Int) := by lia
    have hw' : callM prog F0 (d + 2) 119 [.str l, .int n, .int ((n + 4 : Nat) : Int), .int 16] σ = some (.int (c : Nat), σ) := hw
    have ok : decide ((0 : Int) ≤ (c : Int) ∧ (c : Int).natAbs ≤ 1114111) = true := decide_eq_true ⟨by lia, by lia⟩
    refine s_ret ?_
    simp only [Option.bind_some, Option.map_some, lget_zero, lget_succ, q_m_cst, q_m_loc, q_m_bin, q_m_call, q_m_bi, q_l_nil, q_l_cons, guard_t, o_add, bi_chr, e5, hw', ok, Int.toNat_natCast]
theorem esc_in {e c : Nat} (h : escTab.lookup [e] = some [c]) : cmpS σ .In (.str [e]) (.g (.ref 168)) = some true := by
  have : cmpS σ .In (.str [e]) (.g (.ref 168)) = some (escTab.lookup [e]).isSome := rfl
  rw [this, h]; rfl
theorem esc_item {e c : Nat} (h : escTab.lookup [e] = some [c]) : itemV σ (.g (.ref 168)) (.str [e]) = some (.str [c]) := by
  have : itemV σ (.g (.ref 168)) (.str [e]) = (escTab.lookup [e]).map .str := rfl
  rw [this, h]; rfl
theorem s_expr {C : Nat → List V → St → Option (V × St)} {F : Nat} {e : MX} {m : MB} {Λ : Lo} {σ σ₁ : St} {r : Option Out} (h1 : evalM C e Λ σ = some (.none, σ₁)) (h : execB C F m Λ σ₁ = r) : execB C F (.cons (.expr e) m) Λ σ = r := by
  rw [q_b_cons, q_s_expr, h1, Option.bind_some]
  show (guardO true _).bind _ = _
  rw [guard_t, Option.bind_some, thn_n]
  exact h
theorem s_aug {C : Nat → List V → St → Option (V × St)} {F : Nat} {i : Nat} {e : MX} {m : MB} {Λ : Lo} {σ σ₁ : St} {r : Option Out} {a b : Int} (h0 : lget Λ i = some (.int a)) (h1 : evalM C e Λ σ = some (.int b, σ₁)) (h : execB C F m (Λ.set i (some (.int (a + b)))) σ₁ = r) : execB C F (.cons (.aug i e) m) Λ σ = r := by
  rw [q_b_cons, q_s_aug, h0, Option.bind_some, v_int, Option.bind_some, h1, Option.bind_some, v_int, Option.map_some, Option.bind_some, thn_n]
  exact h
theorem e_append {C : Nat → List V → St → Option (V × St)} {i cell : Nat} {e : MX} {Λ : Lo} {σ : St} {L : List V} {x : V} (h0 : lget Λ i = some (.ref cell)) (h1 : listAt σ cell = some L) (h2 : evalM C e Λ σ = some (x, σ)) (h3 : L.length ≤ 1000) : evalM C (.append (.loc i) e) Λ σ = some (.none, σ.set cell (.list (L ++ [x]))) := by
  rw [q_m_append, q_m_loc, h0, Option.map_some, Option.bind_some, v_ref, Option.bind_some, h1, Option.bind_some, h2, Option.bind_some, h1, Option.bind_some, decide_eq_true h3, guard_t]
theorem js_body {W R : List Nat} {c cell : Nat} {u : Option V} {L : List V} (hl : l.length ≤ 1000) (hd : l.drop n = W ++ R) (hp : Pc W c) (hc : listAt σ cell = some L) (hL : L.length ≤ 1000) :
    ∃ u', execB (callM prog F0 (d + 4)) F0 lb_json_string_0 [some (.str l), some (.int n), some (.ref cell), u] σ = some (.next [some (.str l), some (.int ((n + W.length : Nat) : Int)), some (.ref cell), u'] (σ.set cell (.list (L ++ [.str [c]])))) := by
  cases hp with
  | plain _ q1 q2 q3 =>
    have s := r_sign1 (d := d + 3) (σ := σ) (c := c) (r := R) hl hd
    refine ⟨some (.str [c]), ?_⟩
    refine s_set (x := .str [c]) (σ₁ := σ) (by simp only [Option.bind_some, Option.map_some, lget_zero, lget_succ, q_m_loc, q_m_call, q_l_nil, q_l_cons, s]) ?_
    have c1 : ¬ ([c] = []) := by simp
    have c2 : ¬ ((c : Int) < 32) := by lia
    have c3 : ¬ ([c] = [92]) := fun q => q2 (by injection q)
    refine s_if_f (x := .bool false) (σ₁ := σ) (by simp only [Option.bind_some, Option.map_some, lget_zero, lget_succ, List.set_cons_zero, List.set_cons_succ, q_m_cst, q_m_loc, q_m_cmp, q_m_or, q_m_bi, q_l_nil, q_l_cons, ifB_f, c_lt, c_eqs, v_bool, decide_false, bi_ord, c1, c2]) rfl s_nil ?_
    have e1 : (n : Int) + 1 = ((n + [c].length : Nat) : Int) := by rw [List.length_singleton]; lia
    refine s_if_t (x := .bool true) (σ₁ := σ) (by simp only [Option.bind_some, Option.map_some, lget_zero, lget_succ, List.set_cons_zero, List.set_cons_succ, q_m_cst, q_m_loc, q_m_cmp, c_nes, decide_false, Bool.not_false, c3]) rfl (s_expr (e_append (cell := cell) (x := .str [c]) rfl hc (by simp only [Option.map_some, lget_zero, lget_succ, List.set_cons_zero, List.set_cons_succ, q_m_loc]) hL) (s_aug (b := 1) (a := (n : Int)) rfl rfl s_nil)) ?_
    rw [e1]; rfl
  | short e _ q1 q2 =>
    have hd1 : l.drop n = 92 :: (e :: R) := hd
    obtain ⟨a1, b1, z1⟩ := drop_at hd1
    obtain ⟨a2, b2, z2⟩ := drop_at b1
    have s := r_sign1 (d := d + 3) (σ := σ) hl hd1
    have s2 := r_sign1 (d := d + 3) (σ := σ) hl b1
    have e1 : (n : Int) + 1 = ((n + 1 : Nat) : Int) := by lia
    refine ⟨some (.str [92]), ?_⟩
    refine s_set (x := .str [92]) (σ₁ := σ) (by simp only [Option.bind_some, Option.map_some, lget_zero, lget_succ, q_m_loc, q_m_call, q_l_nil, q_l_cons, s]) ?_
    refine s_if_f (x := .bool false) (σ₁ := σ) rfl rfl s_nil ?_
    have c3 : ¬ ([e] = [117]) := fun q => q1 (by injection q)
    have e2 : (n : Int) + 2 = ((n + [92, e].length : Nat) : Int) := by simp only [List.length_cons, List.length_nil]; lia
    refine s_if_f (x := .bool false) (σ₁ := σ) rfl rfl ?_ s_nil
    refine s_if_f (x := .bool false) (σ₁ := σ) (by simp only [Option.bind_some, Option.map_some, lget_zero, lget_succ, List.set_cons_zero, List.set_cons_succ, q_m_cst, q_m_loc, q_m_bin, q_m_cmp, q_m_call, q_l_nil, q_l_cons, o_add, c_eqs, decide_false, e1, s2, c3]) rfl ?_ s_nil
    refine s_if_t (x := .bool true) (σ₁ := σ) (by simp only [Option.bind_some, Option.map_some, lget_zero, lget_succ, List.set_cons_zero, List.set_cons_succ, q_m_cst, q_m_loc, q_m_bin, q_m_cmp, q_m_call, q_l_nil, q_l_cons, o_add, e1, s2, esc_in q2]) rfl (s_expr (e_append (cell := cell) (x := .str [c]) rfl hc (by simp only [Option.bind_some, Option.map_some, lget_zero, lget_succ, List.set_cons_zero, List.set_cons_succ, q_m_cst, q_m_loc, q_m_bin, q_m_item, o_add, e1, item_str a2 hl, esc_item q2]) hL) (s_aug (b := 2) (a := (n : Int)) rfl rfl s_nil)) ?_
    rw [e2]; rfl
  | hex h1 h2 h3 h4 _ q1 q2 q3 q4 q5 q6 =>
    have hd1 : l.drop n = 92 :: (117 :: (h1 :: h2 :: h3 :: h4 :: R)) := hd
    obtain ⟨a1, b1, z1⟩ := drop_at hd1
    obtain ⟨a2, b2, z2⟩ := drop_at b1
    have s := r_sign1 (d := d + 3) (σ := σ) hl hd1
    have s2 := r_sign1 (d := d + 3) (σ := σ) hl b1
    have hx : callM prog F0 (d + 4) 211 [.str l, .int ((n + 1 + 1 : Nat) : Int)] σ = some (.str [c], σ) := r_hex (d := d + 1) hl b2 q1 q2 q3 q4 q5 q6
    have e1 : (n : Int) + 1 = ((n + 1 : Nat) : Int) := by lia
    have e3 : (n : Int) + 2 = ((n + 1 + 1 : Nat) : Int) := by lia
    refine ⟨some (.str [92]), ?_⟩
    refine s_set (x := .str [92]) (σ₁ := σ) (by simp only [Option.bind_some, Option.map_some, lget_zero, lget_succ, q_m_loc, q_m_call, q_l_nil, q_l_cons, s]) ?_
    refine s_if_f (x := .bool false) (σ₁ := σ) rfl rfl s_nil ?_
    have c3 : ([117] : List Nat) = [117] := rfl
    have e2 : (n : Int) + 6 = ((n + [92, 117, h1, h2, h3, h4].length : Nat) : Int) := by simp only [List.length_cons, List.length_nil]; lia
    refine s_if_f (x := .bool false) (σ₁ := σ) rfl rfl ?_ s_nil
    refine s_if_t (x := .bool true) (σ₁ := σ) (by simp only [Option.bind_some, Option.map_some, lget_zero, lget_succ, List.set_cons_zero, List.set_cons_succ, q_m_cst, q_m_loc, q_m_bin, q_m_cmp, q_m_call, q_l_nil, q_l_cons, o_add, c_eqs, decide_true, e1, s2, c3]) rfl (s_expr (e_append (cell := cell) (x := .str [c]) rfl hc (by simp only [Option.bind_some, Option.map_some, lget_zero, lget_succ, List.set_cons_zero, List.set_cons_succ, q_m_cst, q_m_loc, q_m_bin, q_m_call, q_l_nil, q_l_cons, o_add, e3, hx]) hL) (s_aug (b := 6) (a := (n : Int)) rfl rfl s_nil)) ?_
    rw [e2]; rfl
noncomputable def flatW (ps : List (List Nat × Nat)) : List Nat := (ps.map (·.1)).flatten
theorem js_loop (hl : l.length ≤ 1000) (rest : List Nat) (cell : Nat) : ∀ (ps : List (List Nat × Nat)) (n f : Nat) (u : Option V) (σ : St) (pre : List Nat), ps.length < f → (∀ p ∈ ps, Pc p.1 p.2) → l.drop n = flatW ps ++ 34 :: rest → pre.length + ps.length ≤ 900 → listAt σ cell = some (chV pre) →
    ∃ u', whileM (evalM (callM prog F0 (d + 4)) lc_json_string_0) (execB (callM prog F0 (d + 4)) F0 lb_json_string_0) f [some (.str l), some (.int n), some (.ref cell), u] σ = some (.next [some (.str l), some (.int ((n + (flatW ps).length : Nat) : Int)), some (.ref cell), u'] (σ.set cell (.list (chV (pre ++ ps.map (·.2))))))
  | ps, n, 0, u, σ, pre, hf, _, _, _, _ => absurd hf (Nat.not_lt_zero _)
  | [], n, f + 1, u, σ, pre, hf, hp, hd, hn, hc => by
    have s := r_sign1 (d := d + 3) (σ := σ) (c := 34) (r := rest) hl hd
    have c3 : ([34] : List Nat) = [34] := rfl
    refine ⟨u, ?_⟩
    have es : σ.set cell (.list (chV (pre ++ List.map (fun x : List Nat × Nat => x.2) []))) = σ := by
      rw [List.map_nil, List.append_nil]
      have := listAt_is hc
      obtain ⟨h1, h2⟩ := List.getElem?_eq_some_iff.mp this
      rw [← h2]
      exact List.set_getElem_self h1
    rw [es]
    exact while_f (x := .bool false) (σ₁ := σ) (by simp only [lc_json_string_0, Option.bind_some, Option.map_some, lget_zero, lget_succ, q_m_cst, q_m_loc, q_m_cmp, q_m_call, q_l_nil, q_l_cons, c_nes, decide_true, Bool.not_true, s, c3]) rfl
  | (W, c) :: ps, n, f + 1, u, σ, pre, hf, hp, hd, hn, hc => by
    have pw := hp (W, c) (.head _)
    have hd' : l.drop n = W ++ (flatW ps ++ 34 :: rest) := by rw [hd]; unfold flatW; simp only [List.map_cons, List.flatten_cons, List.append_assoc]
    have hlen : (chV pre).length ≤ 1000 := by unfold chV; rw [List.length_map]; rw [List.length_cons] at hn; lia
    obtain ⟨u', hb⟩ := js_body (d := d) (u := u) hl hd' pw hc hlen
    have es : chV pre ++ [V.str [c]] = chV (pre ++ [c]) := by unfold chV; rw [List.map_append]; rfl
    rw [es] at hb
    have hd2 : l.drop (n + W.length) = flatW ps ++ 34 :: rest := by rw [← List.drop_drop, hd', List.drop_left]
    obtain ⟨u'', hw⟩ := js_loop hl rest cell ps (n + W.length) f u' (σ.set cell (.list (chV (pre ++ [c])))) (pre ++ [c]) (Nat.lt_of_succ_lt_succ hf) (fun p q => hp p (.tail _ q)) hd2 (by rw [List.length_append, List.length_singleton]; rw [List.length_cons] at hn; lia) (listAt_set _ (listAt_lt hc))
    refine ⟨u'', ?_⟩
    have e1 : n + W.length + (flatW ps).length = n + (flatW ((W, c) :: ps)).length := by
      have : (flatW ((W, c) :: ps)).length = W.length + (flatW ps).length := by unfold flatW; simp only [List.map_cons, List.flatten_cons, List.length_append]
      lia
    rw [e1, List.set_set, List.append_assoc] at hw
    refine (while_t (x := .bool true) (σ₁ := σ) ?_ rfl hb).trans hw
    have c3 : ∃ h r, l.drop n = h :: r ∧ h ≠ 34 := by
      obtain ⟨a, r, e, h⟩ := pc_head pw
      have e : W = a :: r := e
      exact ⟨a, _, by rw [hd', e]; rfl, h⟩
    obtain ⟨h, r, hh, h34⟩ := c3
    have s := r_sign1 (d := d + 3) (σ := σ) hl hh
    have c4 : ¬ ([h] = [34]) := fun q => h34 (by injection q)
    simp only [lc_json_string_0, Option.bind_some, Option.map_some, lget_zero, lget_succ, q_m_cst, q_m_loc, q_m_cmp, q_m_call, q_l_nil, q_l_cons, c_nes, decide_false, Bool.not_false, s, c4]
theorem r_json_string {ps : List (List Nat × Nat)} {rest : List Nat} (hl : l.length ≤ 1000) (hp : ∀ p ∈ ps, Pc p.1 p.2) (hn : ps.length ≤ 900) (hd : l.drop n = 34 :: (flatW ps ++ 34 :: rest)) :
    callM prog F0 (d + 5) 218 [.str l, .int n] σ = some (.tup [.str (ps.map (·.2)), .int ((n + 1 + (flatW ps).length + 1 : Nat) : Int)], σ ++ [.list (chV (ps.map (·.2)))]) := by
  have s := r_sign1 (d := d + 3) (σ := σ) hl hd
  obtain ⟨a1, b1, z1⟩ := drop_at hd
  obtain ⟨u', hw⟩ := js_loop (d := d) hl rest σ.length ps (n + 1) F0 none (σ ++ [.list []]) [] (by show _ < 100000; lia) hp b1 (by rw [List.length_nil]; lia) (listAt_push σ [])
  have es : (σ ++ [Cell.list []]).set σ.length (.list (chV ([] ++ ps.map (·.2)))) = σ ++ [.list (chV (ps.map (·.2)))] := by
    rw [List.set_append_right _ _ (Nat.le_refl _), Nat.sub_self]; rfl
  rw [es] at hw
  have c1 : ([34] : List Nat) = [34] := rfl
  have e1 : (n : Int) + 1 = ((n + 1 : Nat) : Int) := by lia
  refine run_eq (d := d + 4) (a := 218) (args := [.str l, .int n]) (o := .ret (.tup [.str (ps.map (·.2)), .int ((n + 1 + (flatW ps).length + 1 : Nat) : Int)]) (σ ++ [.list (chV (ps.map (·.2)))])) (Λ := [some (.str l), some (.int n), none, none]) (f := p_json_string) rfl rfl rfl ?_
  refine s_if_f (x := .bool false) (σ₁ := σ) (by simp only [Option.bind_some, Option.map_some, lget_zero, lget_succ, q_m_cst, q_m_loc, q_m_cmp, q_m_call, q_l_nil, q_l_cons, c_nes, decide_true, Bool.not_true, s, c1]) rfl s_nil ?_
  refine s_swap (vs := [.ref σ.length, .int ((n + 1 : Nat) : Int)]) (σ₁ := σ ++ [.list []]) (by simp only [Option.bind_some, Option.map_some, lget_zero, lget_succ, q_m_cst, q_m_loc, q_m_bin, q_m_tup, q_m_lst, q_l_nil, q_l_cons, o_add, q_m_lst, e1]) rfl rfl ?_
  refine s_loop hw (s_ret ?_)
  have lv := listV_ref (listAt_push σ (chV (ps.map (·.2))))
  have jf := joinFits_chV (ps.map (·.2)) (by rw [List.length_map]; exact hn)
  have e2 : ((n + 1 + (flatW ps).length : Nat) : Int) + 1 = ((n + 1 + (flatW ps).length + 1 : Nat) : Int) := by lia
  simp only [Option.bind_some, Option.map_some, lget_zero, lget_succ, q_m_cst, q_m_loc, q_m_bin, q_m_tup, q_m_join, q_l_nil, q_l_cons, guard_t, o_add, v_str, lv, strsOf_chV, jf, joinL_chV, e2]
end
end Mine
namespace Mine
/-! ## strings: plain, read, quoted -/
noncomputable def tStr : V := .str [115, 116, 114, 105, 110, 103]
section
variable {σ : St} {d : Nat}
noncomputable def qT (W : List Nat) : List Nat := 34 :: (W ++ [34])
theorem r_plain_str {l rest : List Nat} {ps : List (List Nat × Nat)} (hl : l.length ≤ 1000) (hp : ∀ p ∈ ps, Pc p.1 p.2) (hn : ps.length ≤ 900) (hd : l = 34 :: (flatW ps ++ 34 :: rest)) :
    callM prog F0 (d + 6) 225 [.str l, .int 0] σ = some (.tup [.tup [tStr, .str (ps.map (·.2))], .int ((0 + 1 + (flatW ps).length + 1 : Nat) : Int)], σ ++ [.list (chV (ps.map (·.2)))]) := by
  have hs : callM prog F0 (d + 5) 190 [.str l, .int 0] σ = some (.str [34], σ) := by
    have := r_sign1 (d := d + 4) (σ := σ) (n := 0) (l := l) (c := 34) hl hd
    exact this
  have hj : callM prog F0 (d + 5) 218 [.str l, .int 0] σ = some (.tup [.str (ps.map (·.2)), .int ((0 + 1 + (flatW ps).length + 1 : Nat) : Int)], σ ++ [.list (chV (ps.map (·.2)))]) := r_json_string (d := d) (n := 0) hl hp hn hd
  refine run_eq (d := d + 5) (a := 225) (args := [.str l, .int 0]) (o := .ret (.tup [.tup [tStr, .str (ps.map (·.2))], .int ((0 + 1 + (flatW ps).length + 1 : Nat) : Int)]) (σ ++ [.list (chV (ps.map (·.2)))])) (Λ := [some (.str l), some (.int 0), none, none, none, none, none]) (f := p_json_plain) rfl rfl rfl ?_
  refine s_forN (σ₁ := σ) (vs := wordVs) rfl (plain_words hl (fun a b e => by rw [hd] at e; injection e with e _; lia) _ none none none none none) ?_
  have c1 : ([34] : List Nat) = [34] := rfl
  refine s_if_rt (x := .bool true) (σ₁ := σ) (by simp only [Option.bind_some, Option.map_some, lget_zero, lget_succ, q_m_cst, q_m_loc, q_m_cmp, q_m_call, q_l_nil, q_l_cons, c_eqs, decide_true, hs, c1]) rfl ?_
  refine s_tset (vs := [.str (ps.map (·.2)), .int ((0 + 1 + (flatW ps).length + 1 : Nat) : Int)]) (σ₁ := σ ++ [.list (chV (ps.map (·.2)))]) ?_ rfl (s_ret ?_)
  · rw [q_m_call, q_l_cons, q_m_loc]
    exact hj
  · rfl
theorem reads_str {l bs : List Nat} {ps : List (List Nat × Nat)} (hl : l.length ≤ 1000) (hp : ∀ p ∈ ps, Pc p.1 p.2) (hn : ps.length ≤ 900) (hd : l = 34 :: (flatW ps ++ 34 :: bs)) (hb : ∀ c ∈ bs, blank c) : Reads (d + 6) l [tStr, .str (ps.map (·.2))] (0 + 1 + (flatW ps).length + 1) bs := by
  refine ⟨hl, ⟨34, _, hd, ?_, by decide, by decide⟩, fun σ => ⟨_, r_plain_str hl hp hn hd⟩, ?_, hb⟩
  · unfold blank; lia
  · rw [hd]
    have e : 34 :: (flatW ps ++ 34 :: bs) = (34 :: (flatW ps ++ [34])) ++ bs := by simp
    have e2 : 0 + 1 + (flatW ps).length + 1 = (34 :: (flatW ps ++ [34])).length := by simp; lia
    rw [e, e2, List.drop_left]
noncomputable def Qt (S : List Nat) (c : Nat) : Prop := ∀ d : Nat, callM prog F0 (d + 1) 373 [.str [c]] [] = some (.str S, [])
theorem quote_map : ∀ (ps : List (List Nat × Nat)), (∀ p ∈ ps, Qt p.1 p.2) →
    mapO (fun u => (evalM (callM prog F0 (d + 1)) (.call 373 (.cons (.loc 0) .nil)) (some u :: ([] : List (Option V))) []).map (·.1)) ((ps.map (·.2)).map fun c => V.str [c]) = some ((ps.map (·.1)).map V.str)
  | [], _ => rfl
  | (S, c) :: ps, h => by
    have ih := quote_map ps fun p q => h p (.tail _ q)
    have h1 := h (S, c) (.head _) d
    show ((evalM (callM prog F0 (d + 1)) (.call 373 (.cons (.loc 0) .nil)) [some (.str [c])] []).map (·.1)).bind (fun y => (mapO _ ((ps.map (·.2)).map fun c => V.str [c])).bind fun l => some (y :: l)) = _
    have h2 : evalM (callM prog F0 (d + 1)) (.call 373 (.cons (.loc 0) .nil)) [some (.str [c])] [] = some (.str S, []) := h1
    rw [h2, Option.map_some, Option.bind_some, ih]; rfl
theorem strsOf_map : ∀ ss : List (List Nat), strsOf (ss.map V.str) = some ss
  | [] => rfl
  | s :: ss => by
    show (strsOf (ss.map V.str)).map (s :: ·) = _
    rw [strsOf_map ss]; rfl
theorem joinL_nil : ∀ ss : List (List Nat), joinL [] ss = ss.flatten
  | [] => rfl
  | [s] => by show s = s ++ []; rw [List.append_nil]
  | s :: t :: ss => by
    have := joinL_nil (t :: ss)
    show s ++ [] ++ joinL [] (t :: ss) = _
    rw [this, List.append_nil]; rfl
theorem all_scal (cs : List Nat) : (cs.map fun c => V.str [c]).all scal = true := by
  rw [List.all_eq_true]
  intro x hx
  obtain ⟨c, _, rfl⟩ := List.mem_map.mp hx
  rfl
theorem all_rf (cs : List Nat) : (cs.map fun c => V.str [c]).all (rfV 3) = true := by
  rw [List.all_eq_true]
  intro x hx
  obtain ⟨c, _, rfl⟩ := List.mem_map.mp hx
  rfl
theorem all_scal2 (cs : List (List Nat)) : (cs.map V.str).all scal = true := by
  rw [List.all_eq_true]
  intro x hx
  obtain ⟨c, _, rfl⟩ := List.mem_map.mp hx
  rfl
theorem r_quoted0 {cs W : List Nat} (hl : W.length ≤ 900) (hJ : evalM (callM prog F0 (d + 1)) (.join (.cst (.str [])) (.comp (.loc 0) [] (.call 373 (.cons (.loc 0) .nil)))) [some (.str cs)] σ = some (.str W, σ)) : callM prog F0 (d + 2) 378 [.str cs] σ = some (.str (qT W), σ) := by
  refine run_eq (d := d + 1) (a := 378) (args := [.str cs]) (o := .ret (.str (qT W)) σ) (Λ := [some (.str cs)]) (f := p_json_quoted) rfl rfl rfl (s_ret ?_)
  exact ev_adds (σ₁ := σ) (ev_adds (σ₁ := σ) (s := [34]) rfl hJ (by rw [List.length_singleton]; lia)) rfl (by simp only [List.length_append, List.length_singleton]; lia)
theorem r_quoted {ps : List (List Nat × Nat)} (hq : ∀ p ∈ ps, Qt p.1 p.2) (hn : ps.length ≤ 900) (hl : (flatW ps).length ≤ 900) : callM prog F0 (d + 2) 378 [.str (ps.map (·.2))] σ = some (.str (qT (flatW ps)), σ) := by
  refine r_quoted0 hl ?_
  have hm := quote_map (d := d) ps hq
  have hk : (frOk [some (.str (ps.map (·.2)))] [] && compOk ((ps.map (·.2)).map fun c => V.str [c]) ((ps.map (·.1)).map V.str)) = true := by
    unfold compOk
    rw [all_rf, all_scal, all_scal2, List.length_map, List.length_map, decide_eq_true (show ps.length ≤ 1000 by lia)]
    rfl
  have hj : joinFits [] (ps.map (·.1)) = true := by
    unfold joinFits
    have : (flatW ps).length = ((ps.map (·.1)).map (·.length)).sum := by unfold flatW; rw [List.length_flatten]
    rw [← this]
    exact decide_eq_true (by rw [List.length_nil]; lia)
  have hW : flatW ps = (ps.map (·.1)).flatten := rfl
  rw [hW]
  generalize ps.map (·.2) = cs at *
  generalize ps.map (·.1) = ss at *
  have hc : evalM (callM prog F0 (d + 1)) (.comp (.loc 0) [] (.call 373 (.cons (.loc 0) .nil))) [some (.str cs)] σ = some (.lst (ss.map V.str), σ) := by
    rw [q_m_comp, q_m_loc, lget_zero, Option.map_some, Option.bind_some, seq_s, Option.bind_some, List.map_nil, hm, Option.bind_some, hk, guard_t]
  have hv : (listV σ (.lst (ss.map V.str))).bind strsOf = some ss := strsOf_map _
  rw [q_m_join, q_m_cst, Option.bind_some, v_str, Option.bind_some, hc, Option.bind_some, hv, Option.bind_some, hj, guard_t, joinL_nil]
theorem r_plain_text_str0 {cs Q : List Nat} (h : callM prog F0 (d + 2) 378 [.str cs] σ = some (.str Q, σ)) : callM prog F0 (d + 3) 392 [.tup [tStr, .str cs]] σ = some (.str Q, σ) := by
  refine run_eq (d := d + 2) (a := 392) (args := [.tup [tStr, .str cs]]) (o := .ret (.str Q) σ) (Λ := [some (.tup [tStr, .str cs]), none, none]) (f := p_json_plain_text) rfl rfl rfl ?_
  refine s_tset (vs := [tStr, .str cs]) (σ₁ := σ) rfl rfl ?_
  refine s_if_f (x := .bool false) (σ₁ := σ) rfl rfl s_nil ?_
  refine s_if_f (x := .bool false) (σ₁ := σ) rfl rfl s_nil (s_ret ?_)
  rw [q_m_ite]
  exact h
theorem r_plain_text_str {ps : List (List Nat × Nat)} (hq : ∀ p ∈ ps, Qt p.1 p.2) (hn : ps.length ≤ 900) (hl : (flatW ps).length ≤ 900) : callM prog F0 (d + 3) 392 [.tup [tStr, .str (ps.map (·.2))]] σ = some (.str (qT (flatW ps)), σ) := r_plain_text_str0 (r_quoted hq hn hl)
/-! ## the object -/
theorem r_laid_true {gap ind : List Nat} : callM prog F0 (d + 2) 404 [.tup [.str [98, 111, 111, 108], .bool true], .str gap, .str ind] σ = some (.str [116, 114, 117, 101], σ) := by
  refine run_eq (d := d + 1) (a := 404) (args := [.tup [.str [98, 111, 111, 108], .bool true], .str gap, .str ind]) (o := .ret (.str [116, 114, 117, 101]) σ) (Λ := [some (.tup [.str [98, 111, 111, 108], .bool true]), some (.str gap), some (.str ind), none, none, none, none, none, none]) (f := p_json_laid) rfl rfl rfl ?_
  refine s_tset (vs := [.str [98, 111, 111, 108], .bool true]) (σ₁ := σ) rfl rfl ?_
  refine s_if_f (x := .bool false) (σ₁ := σ) rfl rfl s_nil ?_
  have h : callM prog F0 (d + 1) 392 [.tup [.str [98, 111, 111, 108], .bool true]] σ = some (.str [116, 114, 117, 101], σ) := by
    refine run_eq (d := d) (a := 392) (args := [.tup [.str [98, 111, 111, 108], .bool true]]) (o := .ret (.str [116, 114, 117, 101]) σ) (Λ := [some (.tup [.str [98, 111, 111, 108], .bool true]), none, none]) (f := p_json_plain_text) rfl rfl rfl ?_
    refine s_tset (vs := [.str [98, 111, 111, 108], .bool true]) (σ₁ := σ) rfl rfl ?_
    exact s_if_rt (x := .bool true) (σ₁ := σ) rfl rfl (s_ret rfl)
  exact s_if_rt (x := .bool true) (σ₁ := σ) rfl rfl (s_ret (by simp only [Option.bind_some, Option.map_some, lget_zero, List.set_cons_zero, List.set_cons_succ, q_m_loc, q_m_call, q_l_nil, q_l_cons, h]))
theorem r_rows1 {c : Nat} {t : List Nat} (hc : listAt σ c = some [.str t]) (h : t.length ≤ 900) : callM prog F0 (d + 1) 399 [.str [123], .str [125], .ref c, .str [32], .str []] σ = some (.str ([123] ++ [10, 32] ++ t ++ [10] ++ [] ++ [125]), σ) := by
  refine run_eq (d := d) (a := 399) (args := [.str [123], .str [125], .ref c, .str [32], .str []]) (o := .ret (.str ([123] ++ [10, 32] ++ t ++ [10] ++ [] ++ [125])) σ) (Λ := [some (.str [123]), some (.str [125]), some (.ref c), some (.str [32]), some (.str []), none]) (f := p_json_rows) rfl rfl rfl ?_
  have lv := listV_ref hc
  have hl : biV σ 0 [.ref c] = some (.int 1) := by
    show (listV σ (.ref c)).bind _ = _
    rw [lv]; rfl
  have c0 : ¬ ((1 : Int) = 0) := by decide
  refine s_if_f (x := .bool false) (σ₁ := σ) (by simp only [Option.bind_some, Option.map_some, lget_zero, lget_succ, q_m_cst, q_m_loc, q_m_cmp, q_m_bi, q_l_nil, q_l_cons, c_eq, decide_false, hl, c0]) rfl s_nil ?_
  refine s_if_f (x := .bool false) (σ₁ := σ) rfl rfl s_nil ?_
  refine s_set (x := .str [10, 32]) (σ₁ := σ) rfl (s_ret ?_)
  have hj : joinFits [44, 10, 32] [t] = true := decide_eq_true (by simp; lia)
  have hv : (listV σ (.ref c)).bind strsOf = some [t] := by rw [lv]; rfl
  have hJ : evalM (callM prog F0 d) (.join (.bin .Add (.cst (.str [44])) (.loc 5)) (.loc 2)) [some (.str [123]), some (.str [125]), some (.ref c), some (.str [32]), some (.str []), some (.str [10, 32])] σ = some (.str t, σ) := by
    rw [q_m_join]
    show ((listV σ (.ref c)).bind strsOf).bind _ = _
    rw [hv, Option.bind_some]
    show guardO (joinFits [44, 10, 32] [t]) _ = _
    rw [hj]; rfl
  refine ev_adds (σ₁ := σ) (ev_adds (σ₁ := σ) (ev_adds (σ₁ := σ) (ev_adds (σ₁ := σ) (s := [123] ++ [10, 32]) rfl hJ ?_) rfl ?_) rfl ?_) rfl ?_
  all_goals simp only [List.length_cons, List.length_nil, List.length_append]; lia
noncomputable def objV (found : List Nat) : V := .tup [.str [111, 98, 106, 101, 99, 116], .lst [.tup [.str found, .tup [.str [98, 111, 111, 108], .bool true]], .tup [.str [107], .tup [.str [115, 107, 105, 112], .none]]]]
theorem r_show_obj0 {cs Q : List Nat} (hqt : Q.length ≤ 800) (hQ : callM prog F0 (d + 3) 378 [.str cs] (σ ++ [.list []]) = some (.str Q, σ ++ [.list []])) : callM prog F0 (d + 5) 411 [objV cs, .str [32]] σ = some (.str ([123, 10, 32] ++ Q ++ [58, 32, 116, 114, 117, 101, 10, 125]), σ ++ [.list [.str (Q ++ [58, 32] ++ [116, 114, 117, 101])]]) := by
  have hT := r_laid_true (d := d + 1) (σ := σ ++ [.list []]) (gap := [32]) (ind := [32])
  have hla := listAt_push σ []
  have hset : (σ ++ [Cell.list []]).set σ.length (.list ([] ++ [V.str (Q ++ [58, 32] ++ [116, 114, 117, 101])])) = σ ++ [.list [.str (Q ++ [58, 32] ++ [116, 114, 117, 101])]] := by
    rw [List.set_append_right _ _ (Nat.le_refl _), Nat.sub_self]; rfl
  have hr := r_rows1 (d := d + 2) (listAt_push σ [.str (Q ++ [58, 32] ++ [116, 114, 117, 101])]) (by simp only [List.length_cons, List.length_nil, List.length_append]; lia)
  have ee : [123] ++ [10, 32] ++ (Q ++ [58, 32] ++ [116, 114, 117, 101]) ++ [10] ++ [] ++ [125] = [123, 10, 32] ++ Q ++ [58, 32, 116, 114, 117, 101, 10, 125] := by simp
  rw [ee] at hr
  have hadd : ∀ Λ : Lo, lget Λ 8 = some (.str cs) → lget Λ 6 = some (.str [58, 32]) → lget Λ 5 = some (.tup [.str [98, 111, 111, 108], .bool true]) → lget Λ 1 = some (.str [32]) → lget Λ 2 = some (.str []) →
      evalM (callM prog F0 (d + 3)) (.bin .Add (.bin .Add (.call 378 (.cons (.loc 8) .nil)) (.loc 6)) (.call 404 (.cons (.loc 5) (.cons (.loc 1) (.cons (.bin .Add (.loc 2) (.loc 1)) .nil))))) Λ (σ ++ [.list []]) = some (.str (Q ++ [58, 32] ++ [116, 114, 117, 101]), σ ++ [.list []]) := fun Λ h8 h6 h5 h1 h2 => by
    refine ev_adds (σ₁ := σ ++ [.list []]) (ev_adds (σ₁ := σ ++ [.list []]) (s := Q) (t := [58, 32]) ?_ ?_ ?_) ?_ ?_
    · simp only [q_m_call, q_l_cons, q_l_nil, q_m_loc, h8, Option.map_some, Option.bind_some, hQ]
    · simp only [q_m_loc, h6, Option.map_some]
    · simp only [List.length_cons, List.length_nil]; lia
    · have : binV .Add (.str []) (.str [32]) = some (.str [32]) := rfl
      simp only [q_m_call, q_l_cons, q_l_nil, q_m_loc, q_m_bin, h5, h1, h2, Option.map_some, Option.bind_some, this, hT]
    · simp only [List.length_cons, List.length_nil, List.length_append]; lia
  generalize hX : Q ++ [58, 32] ++ [116, 114, 117, 101] = X at *
  generalize hY : [123, 10, 32] ++ Q ++ [58, 32, 116, 114, 117, 101, 10, 125] = Y at *
  have h404 : callM prog F0 (d + 4) 404 [objV cs, .str [32], .str []] σ = some (.str Y, σ ++ [.list [.str X]]) := by
    refine run_eq (d := d + 3) (a := 404) (args := [objV cs, .str [32], .str []]) (o := .ret (.str Y) (σ ++ [.list [.str X]])) (Λ := [some (objV cs), some (.str [32]), some (.str []), none, none, none, none, none, none]) (f := p_json_laid) rfl rfl rfl ?_
    refine s_tset (vs := [.str [111, 98, 106, 101, 99, 116], .lst [.tup [.str cs, .tup [.str [98, 111, 111, 108], .bool true]], .tup [.str [107], .tup [.str [115, 107, 105, 112], .none]]]]) (σ₁ := σ) rfl rfl ?_
    generalize objV cs = O
    refine s_if_f (x := .bool false) (σ₁ := σ) rfl rfl s_nil ?_
    refine s_if_f (x := .bool false) (σ₁ := σ) rfl rfl s_nil ?_
    refine s_set (x := .str [58, 32]) (σ₁ := σ) rfl ?_
    refine s_set (x := .ref σ.length) (σ₁ := σ ++ [.list []]) rfl ?_
    refine s_forN (σ₁ := σ ++ [.list []]) (vs := [.tup [.str cs, .tup [.str [98, 111, 111, 108], .bool true]], .tup [.str [107], .tup [.str [115, 107, 105, 112], .none]]])
      (Λ₁ := [some O, some (.str [32]), some (.str []), some (.str [111, 98, 106, 101, 99, 116]), some (.lst [.tup [.str cs, .tup [.str [98, 111, 111, 108], .bool true]], .tup [.str [107], .tup [.str [115, 107, 105, 112], .none]]]), some (.tup [.str [115, 107, 105, 112], .none]), some (.str [58, 32]), some (.ref σ.length), some (.str [107])]) (σ₂ := σ ++ [.list [.str X]]) rfl ?_ (s_ret ?_)
    · generalize V.lst [.tup [.str cs, .tup [.str [98, 111, 111, 108], .bool true]], .tup [.str [107], .tup [.str [115, 107, 105, 112], .none]]] = O2
      have h1 : execB (callM prog F0 (d + 3)) F0 lb_json_laid_0 [some O, some (.str [32]), some (.str []), some (.str [111, 98, 106, 101, 99, 116]), some O2, some (.tup [.str [98, 111, 111, 108], .bool true]), some (.str [58, 32]), some (.ref σ.length), some (.str cs)] (σ ++ [.list []]) =
          some (.next [some O, some (.str [32]), some (.str []), some (.str [111, 98, 106, 101, 99, 116]), some O2, some (.tup [.str [98, 111, 111, 108], .bool true]), some (.str [58, 32]), some (.ref σ.length), some (.str cs)] (σ ++ [.list [.str X]])) := by
        refine s_if_t (x := .bool true) (σ₁ := σ ++ [.list []]) rfl rfl (s_expr (e_append (cell := σ.length) (L := []) (x := .str X) rfl hla (hadd _ rfl rfl rfl rfl rfl) (by decide)) s_nil) ?_
        rw [hset]; exact s_nil
      have h2 : execB (callM prog F0 (d + 3)) F0 lb_json_laid_0 [some O, some (.str [32]), some (.str []), some (.str [111, 98, 106, 101, 99, 116]), some O2, some (.tup [.str [115, 107, 105, 112], .none]), some (.str [58, 32]), some (.ref σ.length), some (.str [107])] (σ ++ [.list [.str X]]) =
          some (.next [some O, some (.str [32]), some (.str []), some (.str [111, 98, 106, 101, 99, 116]), some O2, some (.tup [.str [115, 107, 105, 112], .none]), some (.str [58, 32]), some (.ref σ.length), some (.str [107])] (σ ++ [.list [.str X]])) :=
        s_if_f (x := .bool false) (σ₁ := σ ++ [.list [.str X]]) rfl rfl s_nil s_nil
      simp only [forM_cons, forM_nil, v_tup, Option.bind_some, setN_cons, setN_nil, List.set_cons_zero, List.set_cons_succ, h1, h2, thn_n]
    · rw [q_m_call]
      exact hr
  refine run_eq (d := d + 4) (a := 411) (args := [objV cs, .str [32]]) (o := .ret (.str Y) (σ ++ [.list [.str X]])) (Λ := [some (objV cs), some (.str [32])]) (f := p_show_json) rfl rfl rfl ?_
  refine s_if_f (x := .bool false) (σ₁ := σ) rfl rfl s_nil (s_ret ?_)
  rw [q_m_call]
  exact h404
theorem r_show_obj {ps : List (List Nat × Nat)} (hq : ∀ p ∈ ps, Qt p.1 p.2) (hn : ps.length ≤ 900) (hl : (flatW ps).length ≤ 700) : ∃ τ, callM prog F0 (d + 5) 411 [objV (ps.map (·.2)), .str [32]] σ = some (.str ([123, 10, 32] ++ qT (flatW ps) ++ [58, 32, 116, 114, 117, 101, 10, 125]), σ ++ τ) :=
  ⟨_, r_show_obj0 (by unfold qT; simp; lia) (r_quoted (d := d + 1) hq hn (by lia))⟩
end
end Mine
namespace Mine
/-! ## the law's string -/
noncomputable def cT : List Nat := [97, 10, 34, 92, 47, 27, 8, 12, 13, 9, 32, 955, 31]
noncomputable def hx (w : Nat) : List Nat := [48, 49, 50, 51, 52, 53, 54, 55, 56, 57] ++ (if w = 1 then [97, 98, 99, 100, 101, 102] else [65, 66, 67, 68, 69, 70])
noncomputable def sx16 : List Nat := [48, 49, 50, 51, 52, 53, 54, 55, 56, 57, 97, 98, 99, 100, 101, 102]
noncomputable def dg (l : List Nat) (i : Nat) : Nat := l[i]?.getD 0
noncomputable def four (c w : Nat) : List Nat := [dg (hx w) (c / 16 ^ 3 % 16), dg (hx w) (c / 16 ^ 2 % 16), dg (hx w) (c / 16 ^ 1 % 16), dg (hx w) (c / 16 ^ 0 % 16)]
noncomputable def tb (c : Nat) : Option (List Nat) := shortTab.lookup (c : Int)
noncomputable def Wt (c w : Nat) : List Nat := if (tb c).isSome = true ∧ w = 0 then (tb c).getD [] else if c = 47 ∧ w = 0 then [92, 47] else if c < 32 ∨ (tb c).isSome = true ∨ w = 1 then [92, 117] ++ four c w else [c]
noncomputable def Sh (c : Nat) : List Nat := if (tb c).isSome = true then (tb c).getD [] else if 32 ≤ c then [c] else [92, 117, 48, 48] ++ [dg [48, 49] (c / 16)] ++ [dg sx16 (c % 16)]
noncomputable def pieceB (W : List Nat) (c : Nat) : Bool := match W with
  | [a] => a == c && a != 34 && a != 92 && decide (32 ≤ a)
  | [b, e] => b == 92 && e != 117 && escTab.lookup [e] == some [c]
  | [b, u, h1, h2, h3, h4] => b == 92 && u == 117 && decide (h1 ∈ hexL) && decide (h2 ∈ hexL) && decide (h3 ∈ hexL) && decide (h4 ∈ hexL) && val 16 [h1, h2, h3, h4] 0 == c && decide (c < 1114112)
  | _ => false
theorem pc_of {W : List Nat} {c : Nat} (h : pieceB W c = true) : Pc W c := by
  have ex : ∀ {a b : Bool}, (a && b) = true → a = true ∧ b = true := fun h => Bool.and_eq_true_iff.mp h
  match W, h with
  | [], h => exact absurd h Bool.false_ne_true
  | [a], h =>
    obtain ⟨h, h3⟩ := ex h
    obtain ⟨h, h2⟩ := ex h
    obtain ⟨h0, h1⟩ := ex h
    obtain rfl := eq_of_beq h0
    exact .plain _ (bne_iff_ne.mp h1) (bne_iff_ne.mp h2) (of_decide_eq_true h3)
  | [b, e], h =>
    obtain ⟨h, h2⟩ := ex h
    obtain ⟨h0, h1⟩ := ex h
    obtain rfl := eq_of_beq h0
    exact .short _ _ (bne_iff_ne.mp h1) (eq_of_beq h2)
  | [_, _, _], h => exact absurd h Bool.false_ne_true
  | [_, _, _, _], h => exact absurd h Bool.false_ne_true
  | [_, _, _, _, _], h => exact absurd h Bool.false_ne_true
  | [b, u, h1, h2, h3, h4], h =>
    obtain ⟨h, q6⟩ := ex h
    obtain ⟨h, q5⟩ := ex h
    obtain ⟨h, q4⟩ := ex h
    obtain ⟨h, q3⟩ := ex h
    obtain ⟨h, q2⟩ := ex h
    obtain ⟨h, q1⟩ := ex h
    obtain ⟨h0, h00⟩ := ex h
    obtain rfl := eq_of_beq h0
    obtain rfl := eq_of_beq h00
    exact .hex _ _ _ _ _ (of_decide_eq_true q1) (of_decide_eq_true q2) (of_decide_eq_true q3) (of_decide_eq_true q4) (eq_of_beq q5) (of_decide_eq_true q6)
  | _ :: _ :: _ :: _ :: _ :: _ :: _ :: _, h => exact absurd h Bool.false_ne_true
theorem W_ok : ∀ c ∈ cT, ∀ w, w < 3 → pieceB (Wt c w) c = true ∧ (Wt c w).length ≤ 6 := by decide +kernel
theorem S_ok : ∀ c ∈ cT, pieceB (Sh c) c = true ∧ (Sh c).length ≤ 6 := by decide +kernel
theorem Q_ok : ∀ c ∈ cT, Qt (Sh c) c := by
  intro c hc
  simp only [cT, List.mem_cons, List.not_mem_nil, or_false] at hc
  rcases hc with rfl | rfl | rfl | rfl | rfl | rfl | rfl | rfl | rfl | rfl | rfl | rfl | rfl <;> intro d <;> kernel_rfl
theorem cT_lt : ∀ c ∈ cT, c < 1000 ∧ (32 ≤ c ∨ c / 16 < 2) := by decide
section
variable {σ : St} {d : Nat}
theorem hx_len (w : Nat) : (hx w).length = 16 := by unfold hx; split <;> rfl
theorem dg_get {l : List Nat} {i : Nat} (h : i < l.length) : l[i]? = some (dg l i) := by unfold dg; rw [List.getElem?_eq_getElem h]; rfl
theorem e_dig {C : Nat → List V → St → Option (V × St)} {a c w : Nat} (ha : a ≤ 3) : evalM C (.item (.loc 2) (.bin .Mod (.bin .FloorDiv (.loc 1) (.bin .Pow (.cst (.int (16))) (.loc 0))) (.cst (.int (16))))) [some (.int a), some (.int c), some (.str (hx w))] [] = some (.str [dg (hx w) (c / 16 ^ a % 16)], []) := by
  have g1 : powG 16 (a : Int) = true := powG_nat (a := 16) (by decide) (by lia)
  have e1 : (16 : Int) ^ (a : Int).toNat = ((16 ^ a : Nat) : Int) := by rw [Int.toNat_natCast, Int.natCast_pow]; rfl
  have l1 : 16 ^ a < 2 ^ 13 := Nat.lt_of_le_of_lt (Nat.pow_le_pow_right (by decide) ha) (by decide)
  have g2 : divG (c : Int) ((16 ^ a : Nat) : Int) = true := divG_nat (Nat.pow_pos (by decide)) (lt9 l1 (by decide))
  have g3 : ∀ x : Int, divG x 16 = true := fun x => divG_nat (b := 16) (by decide) (lt9 (a := 5) (by decide) (by decide))
  have e3 : ∀ x : Nat, (x : Int).fmod 16 = ((x % 16 : Nat) : Int) := fun x => fmod_nat x 16
  have hi := item_str (σ := []) (l := hx w) (n := c / 16 ^ a % 16) (dg_get (by rw [hx_len]; exact Nat.mod_lt _ (by decide))) (by rw [hx_len]; decide)
  simp only [Option.bind_some, Option.map_some, lget_zero, lget_succ, q_m_cst, q_m_loc, q_m_bin, q_m_item, guard_t, o_fdiv, o_mod, o_pow, g1, e1, g2, fdiv_nat, g3, e3, hi]
theorem e_four {C : Nat → List V → St → Option (V × St)} {Λ : Lo} {c w : Nat} (h5 : lget Λ 5 = some (.int (c : Nat))) (h7 : lget Λ 7 = some (.str (hx w))) :
    evalM C (.join (.cst (.str [])) (.comp (.tup (.cons (.cst (.int (3))) (.cons (.cst (.int (2))) (.cons (.cst (.int (1))) (.cons (.cst (.int (0))) .nil))))) [5, 7] (.item (.loc 2) (.bin .Mod (.bin .FloorDiv (.loc 1) (.bin .Pow (.cst (.int (16))) (.loc 0))) (.cst (.int (16))))))) Λ σ = some (.str (four c w), σ) := by
  have hc : evalM C (.comp (.tup (.cons (.cst (.int (3))) (.cons (.cst (.int (2))) (.cons (.cst (.int (1))) (.cons (.cst (.int (0))) .nil))))) [5, 7] (.item (.loc 2) (.bin .Mod (.bin .FloorDiv (.loc 1) (.bin .Pow (.cst (.int (16))) (.loc 0))) (.cst (.int (16)))))) Λ σ = some (.lst ((four c w).map fun x => .str [x]), σ) := by
    rw [q_m_comp]
    simp only [q_m_tup, q_l_cons, q_l_nil, q_m_cst, Option.bind_some, Option.map_some, seq_t, List.map_cons, List.map_nil, h5, h7, mapO]
    rw [show (V.int 3) = .int ((3 : Nat) : Int) from rfl, show (V.int 2) = .int ((2 : Nat) : Int) from rfl, show (V.int 1) = .int ((1 : Nat) : Int) from rfl, show (V.int 0) = .int ((0 : Nat) : Int) from rfl, e_dig (by decide), e_dig (by decide), e_dig (by decide), e_dig (by decide)]
    simp only [Option.map_some, Option.bind_some]
    have : frOk Λ [5, 7] = true := by
      show ((lget Λ 5).any (rfV 3) && ((lget Λ 7).any (rfV 3) && true)) = true
      rw [h5, h7]; rfl
    rw [this]
    rfl
  rw [q_m_join, q_m_cst, Option.bind_some, v_str, Option.bind_some, hc, Option.bind_some]
  have hv : (listV σ (.lst ((four c w).map fun x => V.str [x]))).bind strsOf = some ((four c w).map fun x => [x]) := strsOf_chV _
  rw [hv, Option.bind_some, joinFits_chV (four c w) (show 4 ≤ 900 by decide), joinL_chV]
  rfl
theorem r_tab : callM prog F0 (d + 1) 425 [] σ = some (.ref σ.length, σ ++ [.tab]) := rfl
theorem e_in {Λ : Lo} {c : Nat} (h5 : lget Λ 5 = some (.int (c : Nat))) : evalM (callM prog F0 (d + 1)) (.cmp .In (.loc 5) (.call 425 .nil)) Λ σ = some (.bool (tb c).isSome, σ ++ [.tab]) := by
  have hx : cmpS (σ ++ [.tab]) .In (.int (c : Nat)) (.ref σ.length) = some (tb c).isSome := by
    show (match (σ ++ [Cell.tab])[σ.length]? with | some .tab => some (shortTab.lookup (c : Int)).isSome | _ => none) = _
    rw [List.getElem?_append_right (Nat.le_refl _), Nat.sub_self]; rfl
  rw [q_m_cmp, q_m_loc, h5, Option.map_some, Option.bind_some, q_m_call, q_l_nil, Option.bind_some, r_tab, Option.bind_some, hx]
  rfl
theorem e_it {Λ : Lo} {c : Nat} (h5 : lget Λ 5 = some (.int (c : Nat))) (h : (tb c).isSome = true) : evalM (callM prog F0 (d + 1)) (.item (.call 425 .nil) (.loc 5)) Λ σ = some (.str ((tb c).getD []), σ ++ [.tab]) := by
  have hx : itemV (σ ++ [.tab]) (.ref σ.length) (.int (c : Nat)) = some (.str ((tb c).getD [])) := by
    show (match (σ ++ [Cell.tab])[σ.length]? with | some (.list l) => _ | some (.arr l) => _ | some .tab => (shortTab.lookup (c : Int)).map V.str | _ => none) = _
    rw [List.getElem?_append_right (Nat.le_refl _), Nat.sub_self]
    show (tb c).map V.str = _
    cases hh : tb c with
    | none => rw [hh] at h; cases h
    | some s => rfl
  rw [q_m_item, q_m_call, q_l_nil, Option.bind_some, r_tab, Option.bind_some, q_m_loc, h5, Option.map_some, Option.bind_some, hx]
  rfl
theorem e_chr {C : Nat → List V → St → Option (V × St)} {Λ : Lo} {c : Nat} (h5 : lget Λ 5 = some (.int (c : Nat))) (h : c < 1000) : evalM C (.bi 2 (.cons (.loc 5) .nil)) Λ σ = some (.str [c], σ) := by
  have ok : decide ((0 : Int) ≤ (c : Int) ∧ (c : Int).natAbs ≤ 1114111) = true := decide_eq_true ⟨by lia, by omega⟩
  simp only [Option.bind_some, Option.map_some, q_m_loc, q_m_bi, q_l_nil, q_l_cons, guard_t, bi_chr, h5, ok, Int.toNat_natCast]
noncomputable def stW : MS := .ite (.and (.cmp .In (.loc 5) (.call 425 .nil)) (.cmp .Eq (.loc 6) (.cst (.int (0))))) (.cons (.set 2 (.bin .Add (.loc 2) (.item (.call 425 .nil) (.loc 5)))) .nil) (.cons (.ite (.and (.cmp .Eq (.loc 5) (.cst (.int (47)))) (.cmp .Eq (.loc 6) (.cst (.int (0))))) (.cons (.set 2 (.bin .Add (.loc 2) (.cst (.str [92, 47])))) .nil) (.cons (.ite (.or (.cmp .Lt (.loc 5) (.cst (.int (32)))) (.or (.cmp .In (.loc 5) (.call 425 .nil)) (.cmp .Eq (.loc 6) (.cst (.int (1)))))) (.cons (.set 2 (.bin .Add (.bin .Add (.loc 2) (.cst (.str [92, 117]))) (.loc 8))) .nil) (.cons (.set 2 (.bin .Add (.loc 2) (.bi 2 (.cons (.loc 5) .nil)))) .nil)) .nil)) .nil)
noncomputable def stS : MS := .ite (.cmp .In (.loc 5) (.call 425 .nil)) (.cons (.set 3 (.bin .Add (.loc 3) (.item (.call 425 .nil) (.loc 5)))) .nil) (.cons (.set 3 (.bin .Add (.loc 3) (.ite (.cmp .GtE (.loc 5) (.cst (.int (32)))) (.bi 2 (.cons (.loc 5) .nil)) (.bin .Add (.bin .Add (.cst (.str [92, 117, 48, 48])) (.item (.cst (.str [48, 49])) (.bin .FloorDiv (.loc 5) (.cst (.int (16)))))) (.item (.cst (.str [48, 49, 50, 51, 52, 53, 54, 55, 56, 57, 97, 98, 99, 100, 101, 102])) (.bin .Mod (.loc 5) (.cst (.int (16))))))))) .nil)
theorem tb_len (c : Nat) : ((tb c).getD []).length ≤ 2 := by
  cases h : tb c with
  | none => decide
  | some s =>
    have hm : ∀ (L : List (Int × List Nat)) (i : Int) (s : List Nat), (∀ p ∈ L, p.2.length ≤ 2) → L.lookup i = some s → s.length ≤ 2 := by
      intro L
      induction L with
      | nil => intro i s _ h; cases h
      | cons p L ih =>
        intro i s hL h
        rw [List.lookup_cons] at h
        split at h
        · cases h; exact hL p (.head _)
        · exact ih i s (fun q hq => hL q (.tail _ hq)) h
    exact hm shortTab c s (by decide) h
theorem r_stW {Λ : Lo} {c w : Nat} {wr : List Nat} (hc : c < 1000) (hw : w < 3) (h2 : lget Λ 2 = some (.str wr)) (h5 : lget Λ 5 = some (.int (c : Nat))) (h6 : lget Λ 6 = some (.int (w : Nat))) (h8 : lget Λ 8 = some (.str (four c w))) (hl : wr.length ≤ 1000) :
    ∃ τ, execM (callM prog F0 (d + 1)) F0 stW Λ σ = some (.next (Λ.set 2 (some (.str (wr ++ Wt c w)))) (σ ++ τ)) := by
  have tl := tb_len c
  have o1 : ∀ {s : MS} {Λ' : Lo} {σ' : St}, execB (callM prog F0 (d + 1)) F0 (.cons s .nil) Λ σ = some (.next Λ' σ') → execM (callM prog F0 (d + 1)) F0 s Λ σ = some (.next Λ' σ') := fun {s Λ' σ'} h => by
    rw [q_b_cons] at h
    cases hh : execM (callM prog F0 (d + 1)) F0 s Λ σ with
    | none => rw [hh] at h; cases h
    | some o =>
      rw [hh] at h
      cases o with
      | next a b => exact h
      | ret v b => cases h
  have e0 : ∀ σ, evalM (callM prog F0 (d + 1)) (.cmp .Eq (.loc 6) (.cst (.int (0)))) Λ σ = some (.bool (decide (w = 0)), σ) := fun σ => by
    have : decide ((w : Int) = 0) = decide (w = 0) := by rw [decide_eq_decide]; lia
    simp only [Option.bind_some, Option.map_some, q_m_cst, q_m_loc, q_m_cmp, c_eq, h6, this]
  have e1 : ∀ σ, evalM (callM prog F0 (d + 1)) (.cmp .Eq (.loc 6) (.cst (.int (1)))) Λ σ = some (.bool (decide (w = 1)), σ) := fun σ => by
    have : decide ((w : Int) = 1) = decide (w = 1) := by rw [decide_eq_decide]; lia
    simp only [Option.bind_some, Option.map_some, q_m_cst, q_m_loc, q_m_cmp, c_eq, h6, this]
  have e47 : ∀ σ, evalM (callM prog F0 (d + 1)) (.cmp .Eq (.loc 5) (.cst (.int (47)))) Λ σ = some (.bool (decide (c = 47)), σ) := fun σ => by
    have : decide ((c : Int) = 47) = decide (c = 47) := by rw [decide_eq_decide]; lia
    simp only [Option.bind_some, Option.map_some, q_m_cst, q_m_loc, q_m_cmp, c_eq, h5, this]
  have e32 : ∀ σ, evalM (callM prog F0 (d + 1)) (.cmp .Lt (.loc 5) (.cst (.int (32)))) Λ σ = some (.bool (decide (c < 32)), σ) := fun σ => by
    have : decide ((c : Int) < 32) = decide (c < 32) := by rw [decide_eq_decide]; lia
    simp only [Option.bind_some, Option.map_some, q_m_cst, q_m_loc, q_m_cmp, c_lt, h5, this]
  have and_ev : ∀ {a b : MX} {σ σ₁ σ₂ : St} {s t : Bool}, evalM (callM prog F0 (d + 1)) a Λ σ = some (.bool s, σ₁) → (s = true → evalM (callM prog F0 (d + 1)) b Λ σ₁ = some (.bool t, σ₂)) → (s = false → σ₂ = σ₁) → evalM (callM prog F0 (d + 1)) (.and a b) Λ σ = some (.bool (s && t), σ₂) := fun {a b σ σ₁ σ₂ s t} ha hb hs => by
    rw [q_m_and, ha, Option.bind_some, v_bool, Option.bind_some]
    cases s with
    | true => rw [ifB_t, hb rfl]; rfl
    | false => rw [ifB_f, hs rfl]; rfl
  have l2 : ∀ σ, evalM (callM prog F0 (d + 1)) (.loc 2) Λ σ = some (.str wr, σ) := fun σ => by rw [q_m_loc, h2]; rfl
  have l8 : ∀ σ, evalM (callM prog F0 (d + 1)) (.loc 8) Λ σ = some (.str (four c w), σ) := fun σ => by rw [q_m_loc, h8]; rfl
  have fl : (four c w).length = 4 := rfl
  unfold Wt
  by_cases q1 : (tb c).isSome = true ∧ w = 0
  · rw [if_pos q1]
    refine ⟨[.tab] ++ [.tab], o1 ?_⟩
    rw [← List.append_assoc]
    have hi := e_in (d := d) (σ := σ) h5
    rw [q1.1] at hi
    refine s_if_t (x := .bool true) (σ₁ := σ ++ [.tab]) ?_ rfl (s_set (x := .str (wr ++ (tb c).getD [])) (σ₁ := σ ++ [.tab] ++ [.tab]) (ev_adds (l2 _) (e_it h5 q1.1) (by lia)) s_nil) s_nil
    have := and_ev hi (fun _ => e0 _) (fun q => by cases q)
    rw [decide_eq_true q1.2] at this
    exact this
  · rw [if_neg q1]
    have t1 : evalM (callM prog F0 (d + 1)) (.and (.cmp .In (.loc 5) (.call 425 .nil)) (.cmp .Eq (.loc 6) (.cst (.int (0))))) Λ σ = some (.bool false, σ ++ [.tab]) := by
      have := and_ev (e_in (d := d) (σ := σ) h5) (fun _ => e0 _) (fun _ => rfl)
      rw [this]
      have : ((tb c).isSome && decide (w = 0)) = false := by
        by_cases z : (tb c).isSome = true
        · rw [z, decide_eq_false (fun y => q1 ⟨z, y⟩)]; rfl
        · rw [Bool.not_eq_true] at z; rw [z]; rfl
      rw [this]
    have t2 := and_ev (e47 (σ ++ [.tab])) (fun _ => e0 _) (fun _ => rfl)
    by_cases q2 : c = 47 ∧ w = 0
    · rw [if_pos q2]
      refine ⟨[.tab], o1 ?_⟩
      rw [decide_eq_true q2.1, decide_eq_true q2.2] at t2
      exact s_if_f t1 rfl (s_if_t t2 rfl (s_set (x := .str (wr ++ [92, 47])) (σ₁ := σ ++ [.tab]) (ev_adds (l2 _) rfl (by simp only [List.length_cons, List.length_nil]; lia)) s_nil) s_nil) s_nil
    · rw [if_neg q2]
      have t2' : evalM (callM prog F0 (d + 1)) (.and (.cmp .Eq (.loc 5) (.cst (.int (47)))) (.cmp .Eq (.loc 6) (.cst (.int (0))))) Λ (σ ++ [.tab]) = some (.bool false, σ ++ [.tab]) := by
        rw [t2]
        have : (decide (c = 47) && decide (w = 0)) = false := by
          by_cases z : c = 47
          · rw [decide_eq_true z, decide_eq_false (fun y => q2 ⟨z, y⟩)]; rfl
          · rw [decide_eq_false z]; rfl
        rw [this]
      have or_ev : ∃ τ, evalM (callM prog F0 (d + 1)) (.or (.cmp .Lt (.loc 5) (.cst (.int (32)))) (.or (.cmp .In (.loc 5) (.call 425 .nil)) (.cmp .Eq (.loc 6) (.cst (.int (1)))))) Λ (σ ++ [.tab]) = some (.bool (decide (c < 32 ∨ (tb c).isSome = true ∨ w = 1)), σ ++ [.tab] ++ τ) := by
        rw [q_m_or, e32, Option.bind_some, v_bool, Option.bind_some]
        by_cases z : c < 32
        · rw [decide_eq_true z, ifB_t, decide_eq_true (.inl z)]
          exact ⟨[], by rw [List.append_nil]⟩
        · rw [decide_eq_false z, ifB_f, q_m_or]
          have hi := e_in (d := d) (σ := σ ++ [.tab]) h5
          refine ⟨[.tab], ?_⟩
          show ((evalM (callM prog F0 (d + 1)) (.cmp .In (.loc 5) (.call 425 .nil)) Λ (σ ++ [.tab])).bind _) = _
          rw [hi, Option.bind_some, v_bool, Option.bind_some]
          by_cases y : (tb c).isSome = true
          · rw [y, ifB_t, decide_eq_true (.inr (.inl rfl))]
          · rw [Bool.not_eq_true] at y
            rw [y, ifB_f]
            show evalM (callM prog F0 (d + 1)) (.cmp .Eq (.loc 6) (.cst (.int (1)))) Λ (σ ++ [.tab] ++ [.tab]) = _
            rw [e1]
            have : decide (w = 1) = decide (c < 32 ∨ false = true ∨ w = 1) := by rw [decide_eq_decide]; simp [z]
            rw [this]
      obtain ⟨τ, ho⟩ := or_ev
      refine ⟨[.tab] ++ τ, o1 ?_⟩
      rw [← List.append_assoc]
      by_cases q3 : c < 32 ∨ (tb c).isSome = true ∨ w = 1
      · rw [if_pos q3]
        rw [decide_eq_true q3] at ho
        refine s_if_f t1 rfl (s_if_f t2' rfl (s_if_t ho rfl (s_set (x := .str (wr ++ [92, 117] ++ four c w)) (σ₁ := σ ++ [.tab] ++ τ) (ev_adds (ev_adds (l2 _) rfl (by simp only [List.length_cons, List.length_nil]; lia)) (l8 _) (by simp only [List.length_append, List.length_cons, List.length_nil, fl]; lia)) s_nil) s_nil) s_nil) ?_
        rw [List.append_assoc wr]; exact s_nil
      · rw [if_neg q3]
        rw [decide_eq_false q3] at ho
        exact s_if_f t1 rfl (s_if_f t2' rfl (s_if_f ho rfl (s_set (x := .str (wr ++ [c])) (σ₁ := σ ++ [.tab] ++ τ) (ev_adds (l2 _) (e_chr h5 hc) (by simp only [List.length_cons, List.length_nil]; lia)) s_nil) s_nil) s_nil) s_nil
theorem r_stS {Λ : Lo} {c : Nat} {sh : List Nat} (hc : c < 1000) (hs : 32 ≤ c ∨ c / 16 < 2) (h3 : lget Λ 3 = some (.str sh)) (h5 : lget Λ 5 = some (.int (c : Nat))) (hl : sh.length ≤ 1000) :
    ∃ τ, execB (callM prog F0 (d + 1)) F0 (.cons stS .nil) Λ σ = some (.next (Λ.set 3 (some (.str (sh ++ Sh c)))) (σ ++ τ)) := by
  have tl := tb_len c
  have l3 : ∀ σ, evalM (callM prog F0 (d + 1)) (.loc 3) Λ σ = some (.str sh, σ) := fun σ => by rw [q_m_loc, h3]; rfl
  have hi := e_in (d := d) (σ := σ) h5
  unfold Sh
  by_cases q1 : (tb c).isSome = true
  · rw [if_pos q1]
    refine ⟨[.tab] ++ [.tab], ?_⟩
    rw [← List.append_assoc]
    rw [q1] at hi
    exact s_if_t hi rfl (s_set (x := .str (sh ++ (tb c).getD [])) (σ₁ := σ ++ [.tab] ++ [.tab]) (ev_adds (l3 _) (e_it h5 q1) (by lia)) s_nil) s_nil
  · rw [if_neg q1]
    rw [Bool.not_eq_true] at q1
    rw [q1] at hi
    refine ⟨[.tab], ?_⟩
    by_cases q2 : 32 ≤ c
    · rw [if_pos q2]
      have q2' : (32 : Int) ≤ (c : Int) := by lia
      refine s_if_f hi rfl (s_set (x := .str (sh ++ [c])) (σ₁ := σ ++ [.tab]) (ev_adds (l3 _) ?_ (by simp only [List.length_cons, List.length_nil]; lia)) s_nil) s_nil
      rw [q_m_ite, show evalM (callM prog F0 (d + 1)) (.cmp .GtE (.loc 5) (.cst (.int (32)))) Λ (σ ++ [.tab]) = some (.bool true, σ ++ [.tab]) by simp only [Option.bind_some, Option.map_some, q_m_cst, q_m_loc, q_m_cmp, c_ge, decide_true, h5, q2'], Option.bind_some, t_bool, Option.bind_some, ifB_t]
      exact e_chr h5 hc
    · rw [if_neg q2]
      have q2' : ¬ (32 : Int) ≤ (c : Int) := by lia
      have hs := hs.resolve_left q2
      have g16 : ∀ x : Int, divG x 16 = true := fun x => divG_nat (b := 16) (by decide) (lt9 (a := 5) (by decide) (by decide))
      have f1 : (c : Int).fdiv 16 = ((c / 16 : Nat) : Int) := fdiv_nat c 16
      have f2 : (c : Int).fmod 16 = ((c % 16 : Nat) : Int) := fmod_nat c 16
      have i1 := item_str (σ := σ ++ [.tab]) (l := [48, 49]) (n := c / 16) (dg_get hs) (by decide)
      have i2 := item_str (σ := σ ++ [.tab]) (l := sx16) (n := c % 16) (dg_get (Nat.mod_lt _ (by decide))) (by decide)
      refine s_if_f hi rfl (s_set (x := .str (sh ++ ([92, 117, 48, 48] ++ [dg [48, 49] (c / 16)] ++ [dg sx16 (c % 16)]))) (σ₁ := σ ++ [.tab]) (ev_adds (l3 _) ?_ (by simp only [List.length_append, List.length_cons, List.length_nil]; lia)) s_nil) s_nil
      rw [q_m_ite, show evalM (callM prog F0 (d + 1)) (.cmp .GtE (.loc 5) (.cst (.int (32)))) Λ (σ ++ [.tab]) = some (.bool false, σ ++ [.tab]) by simp only [Option.bind_some, Option.map_some, q_m_cst, q_m_loc, q_m_cmp, c_ge, decide_false, h5, q2'], Option.bind_some, t_bool, Option.bind_some, ifB_f]
      refine ev_adds (σ₁ := σ ++ [.tab]) (ev_adds (σ₁ := σ ++ [.tab]) (s := [92, 117, 48, 48]) (t := [dg [48, 49] (c / 16)]) rfl ?_ (show 4 + 1 ≤ 1000000 by decide)) ?_ (show 5 + 1 ≤ 1000000 by decide)
      · simp only [Option.bind_some, Option.map_some, q_m_cst, q_m_loc, q_m_bin, q_m_item, guard_t, o_fdiv, h5, g16, f1, i1]
      · unfold sx16 at i2 ⊢
        simp only [Option.bind_some, Option.map_some, q_m_cst, q_m_loc, q_m_bin, q_m_item, guard_t, o_mod, h5, g16, f2, i2]
end
end Mine
namespace Mine
section
variable {xs : List Int} {d : Nat}
theorem r_signs {σ : St} : callM prog F0 (d + 1) 418 [] σ = some (.lst (cT.map fun c => .int (c : Nat)), σ) := rfl
theorem stp_app (k : Nat) (τ τ' : St) : stp k xs τ ++ τ' = stp k xs (τ ++ τ') := rfl
theorem ls_body {k : Nat} {τ : St} {f w s : List Nat} {u4 u5 u6 u7 u8 : Option V} (hk : k ≤ 800) (hxs : xs.length ≤ 900) (hf : f.length ≤ 900) (hw : w.length ≤ 900) (hs : s.length ≤ 900) :
    ∃ c way u5' u6' u7' u8' τ', c ∈ cT ∧ way < 3 ∧ execB (callM prog F0 (d + 1)) F0 lb_law_string_0 [some (.ref 0), some (.str f), some (.str w), some (.str s), u4, u5, u6, u7, u8] (stp k xs τ) =
      some (.next [some (.ref 0), some (.str (f ++ [c])), some (.str (w ++ Wt c way)), some (.str (s ++ Sh c)), u4, u5', u6', u7', u8'] (stp (k + 2) xs τ')) := by
  obtain ⟨v1, b1, c1⟩ := r_drawI (τ := τ) (xs := xs) (k := k) d 13 13 rfl (by lia) hxs (by decide) (by decide)
  obtain ⟨v2, b2, c2⟩ := r_drawI (τ := τ) (xs := xs) (k := k + 1) d 3 3 rfl (by lia) hxs (by decide) (by decide)
  have hg : cT[v1]? = some (dg cT v1) := dg_get (by show v1 < 13; exact b1)
  have hm : dg cT v1 ∈ cT := List.mem_of_getElem? hg
  have hi : ∀ σ : St, itemV σ (.lst (cT.map fun c => .int (c : Nat))) (.int v1) = some (.int (dg cT v1 : Nat)) := fun σ => item_lst (show 13 ≤ 1000 by decide) (by rw [List.getElem?_map, hg]; rfl)
  generalize dg cT v1 = c at *
  obtain ⟨l1, l2⟩ := cT_lt c hm
  have hset : evalM (callM prog F0 (d + 1)) (.tup (.cons (.item (.call 418 .nil) (.call 432 (.cons (.loc 0) (.cons (.cst (.int (13))) .nil)))) (.cons (.call 432 (.cons (.loc 0) (.cons (.cst (.int (3))) .nil))) .nil))) [some (.ref 0), some (.str f), some (.str w), some (.str s), u4, u5, u6, u7, u8] (stp k xs τ) = some (.tup [.int (c : Nat), .int (v2 : Nat)], stp (k + 1 + 1) xs τ) := by
    simp only [Option.bind_some, Option.map_some, lget_zero, q_m_cst, q_m_loc, q_m_tup, q_m_call, q_m_item, q_l_nil, q_l_cons, r_signs, c1, hi, c2]
  have hhx : evalM (callM prog F0 (d + 1)) (.bin .Add (.cst (.str [48, 49, 50, 51, 52, 53, 54, 55, 56, 57])) (.ite (.cmp .Eq (.loc 6) (.cst (.int (1)))) (.cst (.str [97, 98, 99, 100, 101, 102])) (.cst (.str [65, 66, 67, 68, 69, 70])))) [some (.ref 0), some (.str f), some (.str w), some (.str s), u4, some (.int (c : Nat)), some (.int (v2 : Nat)), u7, u8] (stp (k + 1 + 1) xs τ) = some (.str (hx v2), stp (k + 1 + 1) xs τ) := by
    unfold hx
    by_cases q : v2 = 1
    · have q' : ((v2 : Nat) : Int) = 1 := by lia
      rw [if_pos q]
      simp only [Option.bind_some, Option.map_some, lget_zero, lget_succ, q_m_cst, q_m_loc, q_m_bin, q_m_cmp, q_m_ite, t_bool, ifB_t, o_adds, c_eq, decide_true, List.length_cons, List.length_nil, List.nil_append, List.cons_append, Nat.reduceAdd, q']
      rfl
    · have q' : ¬ ((v2 : Nat) : Int) = 1 := by lia
      rw [if_neg q]
      simp only [Option.bind_some, Option.map_some, lget_zero, lget_succ, q_m_cst, q_m_loc, q_m_bin, q_m_cmp, q_m_ite, t_bool, ifB_f, o_adds, c_eq, decide_false, List.length_cons, List.length_nil, List.nil_append, List.cons_append, Nat.reduceAdd, q']
      rfl
  obtain ⟨τ1, hW⟩ := r_stW (d := d) (σ := stp (k + 1 + 1) xs τ) (Λ := [some (.ref 0), some (.str f), some (.str w), some (.str s), u4, some (.int (c : Nat)), some (.int (v2 : Nat)), some (.str (hx v2)), some (.str (four c v2))]) l1 b2 rfl rfl rfl rfl (by lia)
  obtain ⟨τ2, hS⟩ := r_stS (d := d) (σ := stp (k + 1 + 1) xs τ ++ τ1) (Λ := [some (.ref 0), some (.str (f ++ [c])), some (.str (w ++ Wt c v2)), some (.str s), u4, some (.int (c : Nat)), some (.int (v2 : Nat)), some (.str (hx v2)), some (.str (four c v2))]) l1 l2 rfl rfl (by lia)
  refine ⟨c, v2, some (.int (c : Nat)), some (.int (v2 : Nat)), some (.str (hx v2)), some (.str (four c v2)), τ ++ τ1 ++ τ2, hm, b2, ?_⟩
  refine s_tset (vs := [.int (c : Nat), .int (v2 : Nat)]) hset rfl ?_
  refine s_set hhx ?_
  refine s_set (e_four (c := c) (w := v2) rfl rfl) ?_
  show execB (callM prog F0 (d + 1)) F0 (.cons stW (dropB 4 lb_law_string_0)) [some (.ref 0), some (.str f), some (.str w), some (.str s), u4, some (.int (c : Nat)), some (.int (v2 : Nat)), some (.str (hx v2)), some (.str (four c v2))] (stp (k + 1 + 1) xs τ) = _
  rw [q_b_cons, hW, Option.bind_some, thn_n]
  refine s_set (x := .str (f ++ [c])) (σ₁ := stp (k + 1 + 1) xs τ ++ τ1) (ev_adds (σ₁ := stp (k + 1 + 1) xs τ ++ τ1) (s := f) rfl (e_chr (c := c) rfl l1) (by simp only [List.length_cons, List.length_nil]; lia)) ?_
  refine Eq.trans hS ?_
  rw [stp_app, stp_app]
  rfl
noncomputable abbrev T3 := List Nat × List Nat × Nat
structure Gd (t : T3) : Prop where
  c : t.2.2 ∈ cT
  w : ∃ way, way < 3 ∧ t.1 = Wt t.2.2 way
  s : t.2.1 = Sh t.2.2
theorem Gd.lens {t : T3} (h : Gd t) : t.1.length ≤ 6 ∧ t.2.1.length ≤ 6 := by
  obtain ⟨way, hw, e⟩ := h.w
  rw [e, h.s]
  exact ⟨(W_ok _ h.c way hw).2, (S_ok _ h.c).2⟩
theorem ls_loop (hxs : xs.length ≤ 900) : ∀ (vs : List V) (k : Nat) (τ : St) (f w s : List Nat) (u4 u5 u6 u7 u8 : Option V), k + 2 * vs.length ≤ 800 → f.length + 6 * vs.length ≤ 900 → w.length + 6 * vs.length ≤ 900 → s.length + 6 * vs.length ≤ 900 →
    ∃ (ts : List T3) (u4' u5' u6' u7' u8' : Option V) (τ' : St), ts.length = vs.length ∧ (∀ t ∈ ts, Gd t) ∧
      Mine.forM (fun v Λ => some (Λ.set 4 (some v))) (execB (callM prog F0 (d + 1)) F0 lb_law_string_0) vs [some (.ref 0), some (.str f), some (.str w), some (.str s), u4, u5, u6, u7, u8] (stp k xs τ) =
        some (.next [some (.ref 0), some (.str (f ++ ts.map (·.2.2))), some (.str (w ++ (ts.map (·.1)).flatten)), some (.str (s ++ (ts.map (·.2.1)).flatten)), u4', u5', u6', u7', u8'] (stp (k + 2 * vs.length) xs τ'))
  | [], k, τ, f, w, s, u4, u5, u6, u7, u8, _, _, _, _ => ⟨[], u4, u5, u6, u7, u8, τ, rfl, fun _ h => absurd h List.not_mem_nil, by simp [forM_nil]⟩
  | v :: vs, k, τ, f, w, s, u4, u5, u6, u7, u8, h1, h2, h3, h4 => by
    rw [List.length_cons] at h1 h2 h3 h4
    obtain ⟨c, way, u5', u6', u7', u8', τ', hc, hw, hb⟩ := ls_body (d := d) (k := k) (τ := τ) (f := f) (w := w) (s := s) (u4 := some v) (u5 := u5) (u6 := u6) (u7 := u7) (u8 := u8) (by lia) hxs (by lia) (by lia) (by lia)
    have hg : Gd (Wt c way, Sh c, c) := ⟨hc, ⟨way, hw, rfl⟩, rfl⟩
    obtain ⟨g1, g2⟩ := hg.lens
    have g1 : (Wt c way).length ≤ 6 := g1
    have g2 : (Sh c).length ≤ 6 := g2
    obtain ⟨ts, a4, a5, a6, a7, a8, τ'', e1, e2, e3⟩ := ls_loop hxs vs (k + 2) τ' (f ++ [c]) (w ++ Wt c way) (s ++ Sh c) (some v) u5' u6' u7' u8' (by lia) (by rw [List.length_append, List.length_singleton]; lia) (by rw [List.length_append]; lia) (by rw [List.length_append]; lia)
    refine ⟨(Wt c way, Sh c, c) :: ts, a4, a5, a6, a7, a8, τ'', by rw [List.length_cons, List.length_cons, e1], fun t ht => ?_, ?_⟩
    · rcases List.mem_cons.mp ht with rfl | ht
      · exact hg
      · exact e2 t ht
    · rw [forM_cons, Option.bind_some]
      simp only [List.set_cons_zero, List.set_cons_succ]
      rw [hb, Option.bind_some, thn_n, e3]
      simp only [List.map_cons, List.flatten_cons, List.append_assoc, List.singleton_append, List.length_cons]
      rw [show k + 2 + 2 * vs.length = k + 2 * (vs.length + 1) by lia]
theorem it_range1 (C : Nat → List V → St → Option (V × St)) (b : MX) (Λ : Lo) (σ : St) : iterM C (.range1 b) Λ σ = (evalM C b Λ σ).bind fun y => (asInt y.1).bind fun j => guardO (small62 j) (some ((List.range (j - 0).toNat).map fun (n : Nat) => V.int ((0 : Int) + n), y.2)) := rfl
theorem r_law_string {k : Nat} {τ : St} (hk : k ≤ 700) (hxs : xs.length ≤ 900) : ∃ (ts : List T3) (k' : Nat) (τ' : St), ts.length ≤ 4 ∧ (∀ t ∈ ts, Gd t) ∧
    callM prog F0 (d + 2) 458 [.ref 0] (stp k xs τ) = some (.tup [.str (ts.map (·.2.2)), .str (qT (ts.map (·.1)).flatten), .str (qT (ts.map (·.2.1)).flatten)], stp k' xs τ') := by
  obtain ⟨v1, b1, c1⟩ := r_drawI (τ := τ) (xs := xs) (k := k) d 5 5 rfl (by lia) hxs (by decide) (by decide)
  obtain ⟨ts, a4, a5, a6, a7, a8, τ', e1, e2, e3⟩ := ls_loop (d := d) hxs ((List.range v1).map fun (n : Nat) => V.int ((0 : Int) + n)) (k + 1) τ [] [] [] none none none none none (by rw [List.length_map, List.length_range]; lia) (by rw [List.length_map, List.length_range, List.length_nil]; lia) (by rw [List.length_map, List.length_range, List.length_nil]; lia) (by rw [List.length_map, List.length_range, List.length_nil]; lia)
  rw [List.length_map, List.length_range] at e1
  have hlen : ∀ (g : T3 → List Nat), (∀ t ∈ ts, (g t).length ≤ 6) → (ts.map g).flatten.length ≤ 24 := fun g hg => by
    have : ∀ (ts : List T3), (∀ t ∈ ts, (g t).length ≤ 6) → (ts.map g).flatten.length ≤ 6 * ts.length := by
      intro ts
      induction ts with
      | nil => intro _; simp
      | cons t ts ih =>
        intro h
        have h1 := h t (.head _)
        have h2 := ih fun x hx => h x (.tail _ hx)
        simp only [List.map_cons, List.flatten_cons, List.length_append, List.length_cons]
        lia
    have := this ts hg
    lia
  have w1 := hlen (·.1) fun t ht => (e2 t ht).lens.1
  have w2 := hlen (·.2.1) fun t ht => (e2 t ht).lens.2
  simp only [List.nil_append] at e3
  refine ⟨ts, k + 1 + 2 * ((List.range v1).map fun (n : Nat) => V.int ((0 : Int) + n)).length, τ', by lia, e2, ?_⟩
  generalize ts.map (·.2.2) = F at *
  generalize (ts.map (·.1)).flatten = W at *
  generalize (ts.map (·.2.1)).flatten = S at *
  generalize hS2 : stp (k + 1 + 2 * ((List.range v1).map fun (n : Nat) => V.int ((0 : Int) + n)).length) xs τ' = S2 at *
  refine run_eq (d := d + 1) (a := 458) (args := [.ref 0]) (o := .ret (.tup [.str F, .str (qT W), .str (qT S)]) S2) (Λ := [some (.ref 0), none, none, none, none, none, none, none, none]) (f := p_law_string) rfl rfl rfl ?_
  refine s_tset (vs := [.str [], .str [], .str []]) (σ₁ := stp k xs τ) rfl rfl ?_
  have sm1 : small62 (v1 : Int) = true := by unfold small62; rw [Int.natAbs_natCast]; exact decide_eq_true (by lia)
  have z : ((v1 : Int) - 0).toNat = v1 := by lia
  refine s_for1 (σ₁ := stp (k + 1) xs τ) ?_ e3 (s_ret ?_)
  · rw [it_range1]
    simp only [Option.bind_some, Option.map_some, lget_zero, List.set_cons_zero, List.set_cons_succ, q_m_cst, q_m_loc, q_m_call, q_l_nil, q_l_cons, guard_t, v_int, c1, sm1, z]
  · have hq : ∀ (i : Nat) (X : List Nat), X.length ≤ 24 → ∀ Λ : Lo, lget Λ i = some (.str X) → evalM (callM prog F0 (d + 1)) (.bin .Add (.bin .Add (.cst (.str [34])) (.loc i)) (.cst (.str [34]))) Λ S2 = some (.str (qT X), S2) := fun i X hX Λ h =>
      ev_adds (σ₁ := S2) (ev_adds (σ₁ := S2) (s := [34]) rfl (by rw [q_m_loc, h]; rfl) (by simp only [List.length_cons, List.length_nil]; lia)) rfl (by simp only [List.length_append, List.length_cons, List.length_nil]; lia)
    simp only [q_m_tup, q_l_cons, q_l_nil, q_m_loc, lget_zero, lget_succ, Option.map_some, Option.bind_some, hq 2 W w1 [some (.ref 0), some (.str F), some (.str W), some (.str S), a4, a5, a6, a7, a8] rfl, hq 3 S w2 [some (.ref 0), some (.str F), some (.str W), some (.str S), a4, a5, a6, a7, a8] rfl]
end
end Mine
namespace Mine
/-! ## the law -/
theorem intsV_map : ∀ xs : List Int, intsV (xs.map V.int) = some xs
  | [] => rfl
  | x :: xs => by
    show (asInt (.int x)).bind (fun i => (intsV (xs.map V.int)).map (i :: ·)) = _
    rw [intsV_map xs]; rfl
noncomputable def absI (i : Int) : Int := if i < 0 then -i else i
theorem abs_map (C : Nat → List V → St → Option (V × St)) : ∀ xs : List Int, mapO (fun u => (evalM C (.bi 3 (.cons (.bi 6 (.cons (.loc 0) .nil)) .nil)) (some u :: ([] : List (Option V))) []).map (·.1)) (xs.map V.int) = some ((xs.map absI).map V.int)
  | [] => rfl
  | x :: xs => by
    have ih := abs_map C xs
    have h : evalM C (.bi 3 (.cons (.bi 6 (.cons (.loc 0) .nil)) .nil)) [some (.int x)] [] = some (.int (absI x), []) := rfl
    show ((evalM C (.bi 3 (.cons (.bi 6 (.cons (.loc 0) .nil)) .nil)) [some (.int x)] []).map (·.1)).bind (fun y => (mapO (fun u => (evalM C (.bi 3 (.cons (.bi 6 (.cons (.loc 0) .nil)) .nil)) (some u :: ([] : List (Option V))) []).map (·.1)) (xs.map V.int)).bind fun l => some (y :: l)) = _
    rw [h, ih]; rfl
theorem ints_rf (xs : List Int) : (xs.map V.int).all (rfV 3) = true ∧ (xs.map V.int).all scal = true := by
  constructor <;> rw [List.all_eq_true] <;> intro x hx <;> obtain ⟨c, _, rfl⟩ := List.mem_map.mp hx <;> rfl
section
variable {σ : St} {d : Nat}
theorem e_script {C : Nat → List V → St → Option (V × St)} {xs : List Int} {u1 u2 u3 u4 u5 u6 u7 : Option V} (h : xs.length ≤ 63) : evalM C (.arr (.cons (.cst (.int (0))) (.cons (.comp (.slice (.loc 0) .no (.yes (.cst (.int (30))))) [] (.bi 3 (.cons (.bi 6 (.cons (.loc 0) .nil)) .nil))) .nil))) [some (.lst (xs.map V.int)), u1, u2, u3, u4, u5, u6, u7] [] =
    some (.ref 0, stp 0 ((xs.take 30).map absI) []) := by
  have hs : sliceV (.lst (xs.map V.int)) none (some 30) = some (.lst ((xs.take 30).map V.int)) := by
    show ((intsV (xs.map V.int)).bind fun ls => guardO (decide ((0 : Int) ≤ 30 ∧ ls.length ≤ 1000)) (some (V.lst ((ls.take (30 : Int).toNat).map .int)))) = _
    rw [intsV_map, Option.bind_some, decide_eq_true ⟨by decide, by lia⟩]; rfl
  have hit : evalM C (.slice (.loc 0) .no (.yes (.cst (.int (30))))) [some (.lst (xs.map V.int)), u1, u2, u3, u4, u5, u6, u7] [] = some (.lst ((xs.take 30).map V.int), []) := by
    simp only [Option.bind_some, Option.map_some, lget_zero, q_m_cst, q_m_loc, q_m_slice, q_o_no, q_o_yes, v_int, hs]
  have hk : (frOk [some (.lst (xs.map V.int)), u1, u2, u3, u4, u5, u6, u7] [] && compOk ((xs.take 30).map V.int) (((xs.take 30).map absI).map V.int)) = true := by
    unfold compOk
    rw [(ints_rf _).1, (ints_rf _).2, (ints_rf _).2, decide_eq_true (show ((xs.take 30).map V.int).length ≤ 1000 by rw [List.length_map, List.length_take]; lia)]
    rfl
  have hc : evalM C (.comp (.slice (.loc 0) .no (.yes (.cst (.int (30))))) [] (.bi 3 (.cons (.bi 6 (.cons (.loc 0) .nil)) .nil))) [some (.lst (xs.map V.int)), u1, u2, u3, u4, u5, u6, u7] [] = some (.lst (((xs.take 30).map absI).map V.int), []) := by
    rw [q_m_comp, hit, Option.bind_some, seq_l, Option.bind_some, List.map_nil, abs_map, Option.bind_some, hk, guard_t]
  rw [q_m_arr, q_l_cons, q_m_cst, Option.bind_some, q_l_cons, hc]
  rfl
noncomputable def wordR (w : List Nat) (t : V) : Prop := ∀ (d : Nat) (σ : St) (a0 a1 a2 a3 a4 a5 : Option V), execB (callM prog F0 (d + 5)) F0 lb_law_0 [a0, a1, a2, a3, a4, a5, some (.str w), some t] σ = some (.next [a0, a1, a2, a3, a4, a5, some (.str w), some t] σ)
theorem word_t : wordR [116, 114, 117, 101] (.tup [.str [98, 111, 111, 108], .bool true]) := by
  intro d σ a0 a1 a2 a3 a4 a5
  kernel_rfl
theorem word_f : wordR [102, 97, 108, 115, 101] (.tup [.str [98, 111, 111, 108], .bool false]) := by
  intro d σ a0 a1 a2 a3 a4 a5
  kernel_rfl
theorem word_n : wordR [110, 117, 108, 108] (.tup [.str [110, 117, 108, 108], .none]) := by
  intro d σ a0 a1 a2 a3 a4 a5
  kernel_rfl
end
end Mine
namespace Mine
noncomputable def tsW (ts : List T3) : List (List Nat × Nat) := ts.map fun t => (t.1, t.2.2)
noncomputable def tsS (ts : List T3) : List (List Nat × Nat) := ts.map fun t => (t.2.1, t.2.2)
theorem tsW_2 (ts : List T3) : (tsW ts).map (·.2) = ts.map (·.2.2) := by unfold tsW; rw [List.map_map]; rfl
theorem tsS_2 (ts : List T3) : (tsS ts).map (·.2) = ts.map (·.2.2) := by unfold tsS; rw [List.map_map]; rfl
theorem tsW_1 (ts : List T3) : flatW (tsW ts) = (ts.map (·.1)).flatten := by unfold flatW tsW; rw [List.map_map]; rfl
theorem tsS_1 (ts : List T3) : flatW (tsS ts) = (ts.map (·.2.1)).flatten := by unfold flatW tsS; rw [List.map_map]; rfl
theorem flat_le (ts : List T3) (h : ∀ t ∈ ts, Gd t) : (ts.map (·.1)).flatten.length ≤ 6 * ts.length ∧ (ts.map (·.2.1)).flatten.length ≤ 6 * ts.length := by
  induction ts with
  | nil => simp
  | cons t ts ih =>
    obtain ⟨h1, h2⟩ := (h t (.head _)).lens
    obtain ⟨i1, i2⟩ := ih fun x hx => h x (.tail _ hx)
    simp only [List.map_cons, List.flatten_cons, List.length_append, List.length_cons]
    lia
structure StrOk (d : Nat) (F W S : List Nat) : Prop where
  codes : codesOk F
  wl : W.length ≤ 24
  sl : S.length ≤ 24
  js : ∀ σ : St, ∃ τ, callM prog F0 (d + 9) 218 [.str (([91] ++ qT W) ++ [93]), .int 1] σ = some (.tup [.str F, .int (1 + (qT W).length : Int)], σ ++ τ)
  rw : ∀ σ : St, ∃ τ, callM prog F0 (d + 9) 295 [.str (qT W ++ [10])] σ = some (.tup [tStr, .str F], σ ++ τ)
  rs : ∀ σ : St, ∃ τ, callM prog F0 (d + 9) 295 [.str (qT S)] σ = some (.tup [tStr, .str F], σ ++ τ)
  pt : ∀ σ : St, callM prog F0 (d + 9) 392 [.tup [tStr, .str F]] σ = some (.str (qT S), σ)
  ob : ∀ σ : St, ∃ τ, callM prog F0 (d + 9) 411 [objV F, .str [32]] σ = some (.str ([123, 10, 32] ++ qT S ++ [58, 32, 116, 114, 117, 101, 10, 125]), σ ++ τ)
theorem str_ok (d : Nat) (ts : List T3) (hn : ts.length ≤ 4) (hg : ∀ t ∈ ts, Gd t) : StrOk d (ts.map (·.2.2)) (ts.map (·.1)).flatten (ts.map (·.2.1)).flatten := by
  obtain ⟨f1, f2⟩ := flat_le ts hg
  have pW : ∀ p ∈ tsW ts, Pc p.1 p.2 := fun p hp => by
    obtain ⟨t, ht, rfl⟩ := List.mem_map.mp hp
    obtain ⟨way, hw, e⟩ := (hg t ht).w
    show Pc t.1 t.2.2
    rw [e]
    exact pc_of (W_ok _ (hg t ht).c way hw).1
  have pS : ∀ p ∈ tsS ts, Pc p.1 p.2 := fun p hp => by
    obtain ⟨t, ht, rfl⟩ := List.mem_map.mp hp
    show Pc t.2.1 t.2.2
    rw [(hg t ht).s]
    exact pc_of (S_ok _ (hg t ht).c).1
  have qS : ∀ p ∈ tsS ts, Qt p.1 p.2 := fun p hp => by
    obtain ⟨t, ht, rfl⟩ := List.mem_map.mp hp
    show Qt t.2.1 t.2.2
    rw [(hg t ht).s]
    exact Q_ok _ (hg t ht).c
  have lW : (tsW ts).length = ts.length := by unfold tsW; rw [List.length_map]
  have lS : (tsS ts).length = ts.length := by unfold tsS; rw [List.length_map]
  have hcodes : codesOk (ts.map (·.2.2)) := fun c hc => by
    obtain ⟨t, ht, rfl⟩ := List.mem_map.mp hc
    have := (cT_lt _ (hg t ht).c).1
    lia
  refine ⟨hcodes, by lia, by lia, fun σ => ?_, fun σ => ?_, fun σ => ?_, fun σ => ?_, fun σ => ?_⟩
  · have h := r_json_string (d := d + 4) (σ := σ) (n := 1) (l := ([91] ++ qT (flatW (tsW ts))) ++ [93]) (ps := tsW ts) (rest := [93]) (by unfold qT; rw [tsW_1]; simp only [List.length_append, List.length_cons, List.length_nil]; lia) pW (by lia) (by unfold qT; simp)
    rw [tsW_2, tsW_1] at h
    have e : ((1 + 1 + (ts.map (·.1)).flatten.length + 1 : Nat) : Int) = 1 + ((qT (ts.map (·.1)).flatten).length : Int) := by
      unfold qT; rw [List.length_cons, List.length_append, List.length_singleton]; lia
    rw [e] at h
    exact ⟨_, h⟩
  · have hr := reads_str (d := d) (l := qT (flatW (tsW ts)) ++ [10]) (bs := [10]) (ps := tsW ts) (by unfold qT; rw [tsW_1]; simp only [List.length_append, List.length_cons, List.length_nil]; lia) pW (by lia) (by unfold qT; simp) (fun c hc => by rw [List.mem_singleton.mp hc]; unfold blank; lia)
    have := r_read (d := d + 4) (σ := σ) hr
    rw [tsW_2, tsW_1] at this
    exact this
  · have hr := reads_str (d := d) (l := qT (flatW (tsS ts))) (bs := []) (ps := tsS ts) (by unfold qT; rw [tsS_1]; simp only [List.length_append, List.length_cons, List.length_nil]; lia) pS (by lia) rfl (fun c hc => absurd hc List.not_mem_nil)
    have := r_read (d := d + 4) (σ := σ) hr
    rw [tsS_2, tsS_1] at this
    exact this
  · have := r_plain_text_str (d := d + 6) (σ := σ) qS (by lia) (by rw [tsS_1]; lia)
    rw [tsS_2, tsS_1] at this
    exact this
  · have := r_show_obj (d := d + 4) (σ := σ) qS (by lia) (by rw [tsS_1]; lia)
    rw [tsS_2, tsS_1] at this
    exact this
theorem codes_str : codesOk [115, 116, 114, 105, 110, 103] := by intro c hc; simp at hc; lia
theorem law_rest {F W S : List Nat} {d : Nat} (h : StrOk (d + 4) F W S) (xs : V) (σ : St) : ∃ σ', execB (callM prog F0 (d + 13)) F0 (dropB 3 p_law.body) [some xs, some (.ref 0), some (.str F), some (.str (qT W)), some (.str (qT S)), none, none, none] σ = some (.ret (.bool true) σ') := by
  obtain ⟨hco, hwl, hsl, hjs, hrw, hrs, hpt, hob⟩ := h
  have lw : (qT W).length ≤ 26 := by unfold qT; simp only [List.length_append, List.length_cons, List.length_nil]; lia
  have ls : (qT S).length ≤ 26 := by unfold qT; simp only [List.length_append, List.length_cons, List.length_nil]; lia
  obtain ⟨τ1, j1⟩ := hjs σ
  obtain ⟨τ2, j2⟩ := hrw (σ ++ τ1)
  have j3 := hpt (σ ++ τ1 ++ τ2)
  obtain ⟨τ4, j4⟩ := hrs (σ ++ τ1 ++ τ2)
  generalize hS3 : σ ++ τ1 ++ τ2 ++ τ4 = σ3 at *
  obtain ⟨τ5, j5⟩ := hob σ3
  refine ⟨σ3 ++ τ5, ?_⟩
  have bl := bi_len (σ := σ ++ τ1) (s := qT W) (by lia)
  generalize hQW : qT W = Q at *
  generalize hQS : qT S = P at *
  clear hjs hrw hrs hpt hob hQW hQS
  have a1 : evalM (callM prog F0 (d + 13)) (.bin .Add (.bin .Add (.cst (.str [91])) (.loc 3)) (.cst (.str [93]))) [some xs, some (.ref 0), some (.str F), some (.str Q), some (.str P), none, none, none] σ = some (.str (([91] ++ Q) ++ [93]), σ) :=
    ev_adds (σ₁ := σ) (ev_adds (σ₁ := σ) (s := [91]) rfl rfl (by simp only [List.length_cons, List.length_nil]; lia)) rfl (by simp only [List.length_append, List.length_cons, List.length_nil]; lia)
  refine s_if_f (x := .bool false) (σ₁ := σ ++ τ1) ?_ rfl s_nil ?_
  · have e : ∀ n : Int, evalM (callM prog F0 (d + 13)) (.call 218 (.cons (.bin .Add (.bin .Add (.cst (.str [91])) (.loc 3)) (.cst (.str [93]))) (.cons (.cst (.int (1))) .nil))) [some xs, some (.ref 0), some (.str F), some (.str Q), some (.str P), none, none, none] σ = some (.tup [.str F, .int (1 + (Q.length : Int))], σ ++ τ1) := fun n => by
      rw [q_m_call, q_l_cons, a1]
      exact j1
    have n1 := ne_si (σ := σ ++ τ1) hco (1 + (Q.length : Int))
    rw [q_m_cmp, e 0]
    simp only [Option.bind_some, Option.map_some, lget_zero, lget_succ, q_m_cst, q_m_loc, q_m_bin, q_m_tup, q_m_bi, q_l_nil, q_l_cons, o_add, bl, n1]
  refine s_if_f (x := .bool false) (σ₁ := σ ++ τ1 ++ τ2) ?_ rfl s_nil ?_
  · have e : evalM (callM prog F0 (d + 13)) (.call 295 (.cons (.bin .Add (.loc 3) (.cst (.str [10]))) .nil)) [some xs, some (.ref 0), some (.str F), some (.str Q), some (.str P), none, none, none] (σ ++ τ1) = some (.tup [tStr, .str F], σ ++ τ1 ++ τ2) := by
      rw [q_m_call, q_l_cons, ev_adds (σ₁ := σ ++ τ1) (σ₂ := σ ++ τ1) (s := Q) (t := [10]) rfl rfl (by simp only [List.length_cons, List.length_nil]; lia)]
      exact j2
    have n1 : cmpS (σ ++ τ1 ++ τ2) .NotEq (.tup [tStr, .str F]) (.tup [.str [115, 116, 114, 105, 110, 103], .str F]) = some false := ne_ss codes_str hco
    rw [q_m_cmp, e]
    simp only [Option.bind_some, Option.map_some, lget_zero, lget_succ, q_m_cst, q_m_loc, q_m_tup, q_l_nil, q_l_cons, n1]
  refine s_if_f (x := .bool false) (σ₁ := σ3) ?_ rfl s_nil ?_
  · have e : evalM (callM prog F0 (d + 13)) (.call 392 (.cons (.tup (.cons (.cst (.str [115, 116, 114, 105, 110, 103])) (.cons (.loc 2) .nil))) .nil)) [some xs, some (.ref 0), some (.str F), some (.str Q), some (.str P), none, none, none] (σ ++ τ1 ++ τ2) = some (.str P, σ ++ τ1 ++ τ2) := j3
    have e2 : callM prog F0 (d + 13) 295 [.str P] (σ ++ τ1 ++ τ2) = some (.tup [tStr, .str F], σ3) := j4
    have n1 : cmpS σ3 .NotEq (.tup [tStr, .str F]) (.tup [.str [115, 116, 114, 105, 110, 103], .str F]) = some false := ne_ss codes_str hco
    rw [q_m_or, q_m_cmp, e]
    simp only [Option.bind_some, Option.map_some, lget_zero, lget_succ, q_m_cst, q_m_loc, q_m_cmp, q_m_tup, q_m_call, q_l_nil, q_l_cons, ifB_f, c_nes, v_bool, decide_true, Bool.not_true, e2, n1]
  clear j1 j2 j3 j4
  refine s_set (x := .lst [.tup [.str [116, 114, 117, 101], .tup [.str [98, 111, 111, 108], .bool true]], .tup [.str [102, 97, 108, 115, 101], .tup [.str [98, 111, 111, 108], .bool false]], .tup [.str [110, 117, 108, 108], .tup [.str [110, 117, 108, 108], .none]]]) (σ₁ := σ3) rfl ?_
  refine s_forN (σ₁ := σ3) (vs := [.tup [.str [116, 114, 117, 101], .tup [.str [98, 111, 111, 108], .bool true]], .tup [.str [102, 97, 108, 115, 101], .tup [.str [98, 111, 111, 108], .bool false]], .tup [.str [110, 117, 108, 108], .tup [.str [110, 117, 108, 108], .none]]]) (σ₂ := σ3)
    (Λ₁ := [some xs, some (.ref 0), some (.str F), some (.str Q), some (.str P), some (.lst [.tup [.str [116, 114, 117, 101], .tup [.str [98, 111, 111, 108], .bool true]], .tup [.str [102, 97, 108, 115, 101], .tup [.str [98, 111, 111, 108], .bool false]], .tup [.str [110, 117, 108, 108], .tup [.str [110, 117, 108, 108], .none]]]), some (.str [110, 117, 108, 108]), some (.tup [.str [110, 117, 108, 108], .none])]) rfl ?_ ?_
  · have w1 := word_t (d + 8) σ3
    have w2 := word_f (d + 8) σ3
    have w3 := word_n (d + 8) σ3
    simp only [forM_cons, forM_nil, v_tup, Option.bind_some, setN_cons, setN_nil, List.set_cons_zero, List.set_cons_succ, w1, w2, w3, thn_n]
  refine s_set (x := objV F) (σ₁ := σ3) rfl (s_ret ?_)
  have e : evalM (callM prog F0 (d + 13)) (.call 411 (.cons (.loc 7) (.cons (.cst (.str [32])) .nil))) [some xs, some (.ref 0), some (.str F), some (.str Q), some (.str P), some (.lst [.tup [.str [116, 114, 117, 101], .tup [.str [98, 111, 111, 108], .bool true]], .tup [.str [102, 97, 108, 115, 101], .tup [.str [98, 111, 111, 108], .bool false]], .tup [.str [110, 117, 108, 108], .tup [.str [110, 117, 108, 108], .none]]]), some (.str [110, 117, 108, 108]), some (objV F)] σ3 = some (.str ([123, 10, 32] ++ P ++ [58, 32, 116, 114, 117, 101, 10, 125]), σ3 ++ τ5) := j5
  have e2 : evalM (callM prog F0 (d + 13)) (.bin .Add (.bin .Add (.cst (.str [123, 10, 32])) (.loc 4)) (.cst (.str [58, 32, 116, 114, 117, 101, 10, 125]))) [some xs, some (.ref 0), some (.str F), some (.str Q), some (.str P), some (.lst [.tup [.str [116, 114, 117, 101], .tup [.str [98, 111, 111, 108], .bool true]], .tup [.str [102, 97, 108, 115, 101], .tup [.str [98, 111, 111, 108], .bool false]], .tup [.str [110, 117, 108, 108], .tup [.str [110, 117, 108, 108], .none]]]), some (.str [110, 117, 108, 108]), some (objV F)] (σ3 ++ τ5) = some (.str ([123, 10, 32] ++ P ++ [58, 32, 116, 114, 117, 101, 10, 125]), σ3 ++ τ5) :=
    ev_adds (σ₁ := σ3 ++ τ5) (ev_adds (σ₁ := σ3 ++ τ5) (s := [123, 10, 32]) rfl rfl (by simp only [List.length_cons, List.length_nil]; lia)) rfl (by simp only [List.length_append, List.length_cons, List.length_nil]; lia)
  rw [q_m_cmp]
  refine (congrArg (fun z => Option.bind z _) e).trans ?_
  rw [Option.bind_some]
  refine (congrArg (fun z => Option.bind z _) e2).trans ?_
  rw [Option.bind_some, c_eqs, decide_eq_true rfl]
  rfl
theorem law_true (xs : List Int) (h : xs.length ≤ 63) : ∃ σ', run 18 463 [.lst (xs.map .int)] [] = some (.bool true, σ') := by
  have hl : ((xs.take 30).map absI).length ≤ 900 := by rw [List.length_map, List.length_take]; lia
  obtain ⟨τ1, h1⟩ := r_number_right (d := 4) (τ := []) (xs := (xs.take 30).map absI) (k := 0) (by decide) hl
  obtain ⟨ts, k', τ2, t1, t2, t3⟩ := r_law_string (d := 15) (k := 0 + 8) (τ := τ1) (xs := (xs.take 30).map absI) (by decide) hl
  have hso := str_ok 8 ts t1 t2
  generalize ts.map (·.2.2) = F at *
  generalize (ts.map (·.1)).flatten = W at *
  generalize (ts.map (·.2.1)).flatten = S at *
  obtain ⟨σ', hr⟩ := law_rest (d := 4) hso (.lst (xs.map V.int)) (stp k' ((xs.take 30).map absI) τ2)
  have hs := fun u1 u2 u3 u4 u5 u6 u7 => e_script (C := callM prog F0 17) (xs := xs) (u1 := u1) (u2 := u2) (u3 := u3) (u4 := u4) (u5 := u5) (u6 := u6) (u7 := u7) h
  generalize xs.map V.int = X at *
  generalize (xs.take 30).map absI = Y at *
  refine ⟨σ', ?_⟩
  refine run_eq (d := 17) (a := 463) (args := [.lst X]) (o := .ret (.bool true) σ') (Λ := [some (.lst X), none, none, none, none, none, none, none]) (f := p_law) rfl rfl rfl ?_
  refine s_set (x := .ref 0) (σ₁ := stp 0 Y []) (hs none none none none none none none) ?_
  refine s_if_f (x := .bool false) (σ₁ := stp (0 + 8) Y τ1) ?_ rfl s_nil ?_
  · have e : evalM (callM prog F0 17) (.call 453 (.cons (.loc 1) .nil)) [some (.lst X), some (.ref 0), none, none, none, none, none, none] (stp 0 Y []) = some (.bool true, stp (0 + 8) Y τ1) := h1
    rw [q_m_not]
    refine (congrArg (fun z => Option.bind z _) e).trans ?_
    rfl
  refine s_tset (vs := [.str F, .str (qT W), .str (qT S)]) (σ₁ := stp k' Y τ2) t3 rfl ?_
  exact hr
end Mine
theorem PySem.Challenge.cw_pc0078_01_holds : PySem.Challenge.rw_pc0078_01.Holds :=
  Mine.law_holds 18 (by decide) Mine.law_true
