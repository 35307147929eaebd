import PyProof.Rows.All
import Wide.All
import OpenK.AllK
import Wide.FinOn
import Lean
import PySem.Challenge.RW_nz0521_01
section
open PySem PySem.W PySem.Spec PySem.Calls PyProof.Rows
set_option Elab.async false
set_option maxRecDepth 100000
namespace Mine
noncomputable abbrev PW : Program := PySem.Challenge.pw_nz0521_01
noncomputable def stm (i : Nat) : Stmt := PW.main.body.getD i (.Pass ⟨0, 0, 0, 0⟩)
noncomputable def mem (i j : Nat) : Stmt := match stm i with | .ClassDef _ _ _ body _ _ _ _ _ _ _ => body.getD j (.Pass ⟨0, 0, 0, 0⟩) | s => s
noncomputable def sName : Stmt → Str | .FunctionDef n _ _ _ _ _ _ _ _ _ => n | _ => "?"
noncomputable def sArgs : Stmt → Arguments | .FunctionDef _ a _ _ _ _ _ _ _ _ => a | _ => ⟨[], [], none, [], [], none, []⟩
noncomputable def sBody : Stmt → List Stmt | .FunctionDef _ _ b _ _ _ _ _ _ _ => b | _ => []
noncomputable def sPos : Stmt → Pos | .FunctionDef _ _ _ _ _ _ _ _ _ p => p | _ => ⟨0, 0, 0, 0⟩
noncomputable def sScope : Stmt → Scope | .FunctionDef _ _ _ _ _ _ s _ _ _ => s | _ => PW.main.scope
noncomputable abbrev vS (s : String) (t : Nat) : Value := .str (Str.ofString s) t
noncomputable abbrev vI (i : Int) (t : Nat) : Value := .int i t
noncomputable abbrev oFn (s : Stmt) (qual : String) (dV pm cd : Value) : Obj := { cls := .type "function", data := .func (fnOf (sName s) (Str.ofString qual) (sArgs s) (sBody s) (sScope s) dV .none .none pm none cd .none) }
noncomputable abbrev oCode (l : List Value) : Obj := { cls := .type "code", data := .fields l.toArray }
noncomputable abbrev oTup (l : List Value) (n : Nat) : Obj := { cls := .type "tuple", data := .seq l.toArray n }
noncomputable def ents (P : Params) : List (String × Nat × Value) → List DictEntry
  | [] => []
  | (s, t, v) :: r => ⟨PyData.keyHash P (Str.ofString s), .str (Str.ofString s) t, v⟩ :: ents P r
noncomputable abbrev oDict (P : Params) (l : List (String × Nat × Value)) (n : Nat) : Obj := { cls := .type "dict", data := .dict (ents P l).toArray n }
noncomputable abbrev oCls (nm : String) (bs mro : List Value) (ns : Nat) (q : String) (sub : List Value) (sl : List (Option Value)) : Obj :=
  { cls := .type "type", data := .cls { name := Str.ofString nm, bases := bs, mro := mro, ns := ns, qualname := Str.ofString q, hasDict := true, slotNames := [], subclasses := sub, abstract := false, collection := none, hasDel := false }, slots := sl.toArray }
noncomputable def HK (P : Params) : Frag := [
   (3, oDict P [("__name__", 165, (vS "law_nz0521_01" 1145)), ("__doc__", 166, .none), ("__package__", 167, .none), ("__loader__", 168, (.builtin "__main__.__loader__#opaque")), ("__spec__", 169, .none), ("__annotations__", 170, (.ref 6)), ("__builtins__", 171, (.ref 4)), ("__file__", 173, (vS "/claim/cut.py" 172)), ("__cached__", 174, .none), ("_wall", 193, (.ref 21)), ("get_attr", 203, (.ref 28)), ("dim_of", 211, (.ref 35)), ("CoveError", 233, (.ref 45)), ("Refusal", 258, (.ref 65)), ("NAN", 263, (.ref 68)), ("INF", 266, (.ref 69)), ("ZERO", 269, (.ref 70)), ("ONE", 272, (.ref 71)), ("MOST_POWER", 274, (vI 4096 273)), ("gcd", 282, (.ref 78)), ("make", 291, (.ref 85)), ("from_int", 298, (.ref 92)), ("is_na", 305, (.ref 99)), ("is_finite", 312, (.ref 106)), ("marked", 320, (.ref 113)), ("neg", 327, (.ref 120)), ("add", 335, (.ref 127)), ("sub", 343, (.ref 134)), ("mul", 351, (.ref 141)), ("div", 359, (.ref 148)), ("isqrt", 368, (.ref 155)), ("root", 377, (.ref 162)), ("power", 385, (.ref 169)), ("endless_power", 394, (.ref 176)), ("infinite_power", 402, (.ref 183)), ("whole_power", 410, (.ref 190)), ("floor", 417, (.ref 197)), ("nearest_whole", 427, (.ref 204)), ("exponent", 437, (.ref 211)), ("int_div", 446, (.ref 218)), ("remainder", 454, (.ref 225)), ("compare", 464, (.ref 232)), ("Vector", 508, (.ref 257)), ("Symbol", 539, (.ref 278)), ("Call", 574, (.ref 300)), ("text", 581, (.ref 311)), ("length", 589, (.ref 318)), ("is_atomic", 596, (.ref 325)), ("share", 603, (.ref 332)), ("MOST_INTEGER", 607, (vI 2147483647 606)), ("recycle_length", 615, (.ref 339)), ("note_recycling", 624, (.ref 346)), ("product", 633, (.ref 353)), ("result_dim", 646, (.ref 360)), ("note_array_of_one", 658, (.ref 367)), ("common_length", 667, (.ref 374)), ("attribute", 675, (.ref 381)), ("shape_attrs", 688, (.ref 388)), ("result_attrs", 700, (.ref 395)), ("integer_op", 710, (.ref 402)), ("double_op", 719, (.ref 409)), ("number_items", 726, (.ref 416)), ("double_items", 732, (.ref 587)), ("double_items_arith", 733, (.ref 421)), ("integer_result", 750, (.ref 428)), ("double_result", 756, (.ref 433)), ("arith", 770, (.ref 440)), ("keep_all", 778, (.ref 447)), ("check_unary", 785, (.ref 454)), ("negate", 791, (.ref 459)), ("plus", 800, (.ref 466)), ("whole_text", 812, (.ref 473)), ("special_text", 819, (.ref 480)), ("scaled", 829, (.ref 487)), ("significant", 839, (.ref 494)), ("without_tail", 847, (.ref 501)), ("scientific_text", 859, (.ref 508)), ("fixed_text", 869, (.ref 515)), ("measures", 882, (.ref 522)), ("chosen_form", 899, (.ref 529)), ("formed", 908, (.ref 536)), ("common_texts", 914, (.ref 541)), ("number_text", 923, (.ref 549)), ("to_text", 933, (.ref 556)), ("holds", 944, (.ref 563)), ("plain_order", 952, (.ref 570)), ("comparable", 961, (.ref 577)), ("text_items", 967, (.ref 582)), ("double_items_compare", 974, (.ref 587)), ("compare_op", 980, (.ref 593)), ("and_items", 990, (.ref 600)), ("or_items", 998, (.ref 607)), ("not_item", 1005, (.ref 614)), ("truth_item", 1013, (.ref 621)), ("truth_items", 1019, (.ref 626)), ("logic_operand", 1026, (.ref 633)), ("logic_pairs", 1032, (.ref 638)), ("logic_and", 1041, (.ref 645)), ("logic_or", 1050, (.ref 652)), ("logic_not", 1056, (.ref 657)), ("arith_names", 1064, (.ref 664)), ("compare_names", 1070, (.ref 671)), ("safe_names", 1076, (.ref 678)), ("is_constant", 1083, (.ref 685)), ("plain_call_name", 1091, (.ref 692)), ("unary_value", 1100, (.ref 699)), ("binary_value", 1110, (.ref 706)), ("call_value", 1120, (.ref 713)), ("fold", 1133, (.ref 720)), ("fold_uses", 1144, (.ref 727)), ("_law_pool", 1159, (.ref 734)), ("_law_pick", 1168, (.ref 741)), ("_law_reduced", 1178, (.ref 748)), ("_law_tree", 1184, (.ref 753)), ("_law_value", 1190, (.ref 758)), ("_law_pair", 1197, (.ref 765)), ("_law_numbers", 1213, (.ref 772)), ("_law_reckoned", 1219, (.ref 777)), ("_law_uses", 1228, (.ref 784)), ("law", 1234, (.ref 789))] 120),
   (27, oCode [(vS "get_attr" 196), (vS "get_attr" 197), (vS "/claim/cut.py" 198), (vI 5 0), (vI 2 0), (vI 0 0), (vI 0 0), (vI 3 0), (.ref 22), (.bool true), (vI 181 0), (.ref 23), .none, (.ref 24), (.ref 25), (.ref 26), (vI 201 0), (vI 5 0), (vS "/claim/cut.py" 202)]),
   (28, oFn (stm 2) "get_attr" .none (vS "vectorcove.attrs" 194) (.ref 27)),
   (34, oCode [(vS "dim_of" 204), (vS "dim_of" 205), (vS "/claim/cut.py" 206), (vI 9 0), (vI 1 0), (vI 0 0), (vI 0 0), (vI 3 0), (.ref 29), (.bool true), (vI 181 0), (.ref 30), .none, (.ref 31), (.ref 32), (.ref 33), (vI 209 0), (vI 9 0), (vS "/claim/cut.py" 210)]),
   (35, oFn (stm 3) "dim_of" .none (vS "vectorcove.attrs" 194) (.ref 34)),
   (44, oDict P [("__module__", 221, (vS "vectorcove.errors" 212)), ("__firstlineno__", 225, (vI 15 224)), ("__static_attributes__", 226, (.ref 43)), ("__weakref__", 228, (.ref 46)), ("__doc__", 229, .none)] 3),
   (45, oCls "CoveError" [(.type "Exception")] [(.ref 45), (.type "Exception"), (.type "BaseException"), (.type "object")] 44 "CoveError" [(.ref 65)] [some (.ref 36), none, some (vS "CoveError" 214), some (vS "CoveError" 222), some (.builtin "Exception.__new__"), some (.bool true)]),
   (61, oCode [(vS "__init__" 246), (vS "Refusal.__init__" 247), (vS "/claim/cut.py" 248), (vI 19 0), (vI 2 0), (vI 0 0), (vI 0 0), (vI 3 0), (.ref 56), (.bool true), (vI 181 0), (.ref 57), .none, (.ref 58), (.ref 59), (.ref 60), (vI 251 0), (vI 19 0), (vS "/claim/cut.py" 252)]),
   (62, oFn (mem 6 0) "Refusal.__init__" .none (vS "vectorcove.errors" 212) (.ref 61)),
   (64, oDict P [("__module__", 241, (vS "vectorcove.errors" 212)), ("__firstlineno__", 245, (vI 17 244)), ("__init__", 253, (.ref 62)), ("__static_attributes__", 255, (.ref 63)), ("__doc__", 256, .none)] 2),
   (65, oCls "Refusal" [(.ref 45)] [(.ref 65), (.ref 45), (.type "Exception"), (.type "BaseException"), (.type "object")] 64 "Refusal" [] [some (.ref 49), none, some (vS "Refusal" 234), some (vS "Refusal" 242), some (.builtin "Exception.__new__"), some (.bool true)]),
   (68, oTup [(vI 0 261), (vI 0 262)] 0),
   (69, oTup [(vI 1 264), (vI 0 265)] 0),
   (70, oTup [(vI 0 267), (vI 1 268)] 0),
   (71, oTup [(vI 1 270), (vI 1 271)] 0),
   (77, oCode [(vS "gcd" 275), (vS "gcd" 276), (vS "/claim/cut.py" 277), (vI 27 0), (vI 2 0), (vI 0 0), (vI 0 0), (vI 3 0), (.ref 72), (.bool true), (vI 181 0), (.ref 73), .none, (.ref 74), (.ref 75), (.ref 76), (vI 280 0), (vI 27 0), (vS "/claim/cut.py" 281)]),
   (78, oFn (stm 13) "gcd" .none (vS "vectorcove.rational" 259) (.ref 77)),
   (84, oCode [(vS "make" 283), (vS "make" 284), (vS "/claim/cut.py" 285), (vI 31 0), (vI 2 0), (vI 0 0), (vI 0 0), (vI 3 0), (.ref 79), (.bool true), (vI 181 0), (.ref 80), .none, (.ref 81), (.ref 82), (.ref 83), (vI 289 0), (vI 31 0), (vS "/claim/cut.py" 290)]),
   (85, oFn (stm 14) "make" .none (vS "vectorcove.rational" 259) (.ref 84)),
   (91, oCode [(vS "from_int" 292), (vS "from_int" 293), (vS "/claim/cut.py" 294), (vI 41 0), (vI 1 0), (vI 0 0), (vI 0 0), (vI 3 0), (.ref 86), (.bool true), (vI 181 0), (.ref 87), .none, (.ref 88), (.ref 89), (.ref 90), (vI 296 0), (vI 41 0), (vS "/claim/cut.py" 297)]),
   (92, oFn (stm 15) "from_int" .none (vS "vectorcove.rational" 259) (.ref 91)),
   (98, oCode [(vS "is_na" 299), (vS "is_na" 300), (vS "/claim/cut.py" 301), (vI 45 0), (vI 1 0), (vI 0 0), (vI 0 0), (vI 3 0), (.ref 93), (.bool true), (vI 181 0), (.ref 94), .none, (.ref 95), (.ref 96), (.ref 97), (vI 303 0), (vI 45 0), (vS "/claim/cut.py" 304)]),
   (99, oFn (stm 16) "is_na" .none (vS "vectorcove.rational" 259) (.ref 98)),
   (105, oCode [(vS "is_finite" 306), (vS "is_finite" 307), (vS "/claim/cut.py" 308), (vI 47 0), (vI 1 0), (vI 0 0), (vI 0 0), (vI 3 0), (.ref 100), (.bool true), (vI 181 0), (.ref 101), .none, (.ref 102), (.ref 103), (.ref 104), (vI 310 0), (vI 47 0), (vS "/claim/cut.py" 311)]),
   (106, oFn (stm 17) "is_finite" .none (vS "vectorcove.rational" 259) (.ref 105)),
   (119, oCode [(vS "neg" 321), (vS "neg" 322), (vS "/claim/cut.py" 323), (vI 53 0), (vI 1 0), (vI 0 0), (vI 0 0), (vI 3 0), (.ref 114), (.bool true), (vI 181 0), (.ref 115), .none, (.ref 116), (.ref 117), (.ref 118), (vI 325 0), (vI 53 0), (vS "/claim/cut.py" 326)]),
   (120, oFn (stm 19) "neg" .none (vS "vectorcove.rational" 259) (.ref 119)),
   (126, oCode [(vS "add" 328), (vS "add" 329), (vS "/claim/cut.py" 330), (vI 57 0), (vI 2 0), (vI 0 0), (vI 0 0), (vI 3 0), (.ref 121), (.bool true), (vI 181 0), (.ref 122), .none, (.ref 123), (.ref 124), (.ref 125), (vI 333 0), (vI 57 0), (vS "/claim/cut.py" 334)]),
   (127, oFn (stm 20) "add" .none (vS "vectorcove.rational" 259) (.ref 126)),
   (133, oCode [(vS "sub" 336), (vS "sub" 337), (vS "/claim/cut.py" 338), (vI 67 0), (vI 2 0), (vI 0 0), (vI 0 0), (vI 3 0), (.ref 128), (.bool true), (vI 181 0), (.ref 129), .none, (.ref 130), (.ref 131), (.ref 132), (vI 341 0), (vI 67 0), (vS "/claim/cut.py" 342)]),
   (134, oFn (stm 21) "sub" .none (vS "vectorcove.rational" 259) (.ref 133)),
   (140, oCode [(vS "mul" 344), (vS "mul" 345), (vS "/claim/cut.py" 346), (vI 69 0), (vI 2 0), (vI 0 0), (vI 0 0), (vI 3 0), (.ref 135), (.bool true), (vI 181 0), (.ref 136), .none, (.ref 137), (.ref 138), (.ref 139), (vI 349 0), (vI 69 0), (vS "/claim/cut.py" 350)]),
   (141, oFn (stm 22) "mul" .none (vS "vectorcove.rational" 259) (.ref 140)),
   (147, oCode [(vS "div" 352), (vS "div" 353), (vS "/claim/cut.py" 354), (vI 73 0), (vI 2 0), (vI 0 0), (vI 0 0), (vI 3 0), (.ref 142), (.bool true), (vI 181 0), (.ref 143), .none, (.ref 144), (.ref 145), (.ref 146), (vI 357 0), (vI 73 0), (vS "/claim/cut.py" 358)]),
   (148, oFn (stm 23) "div" .none (vS "vectorcove.rational" 259) (.ref 147)),
   (168, oCode [(vS "power" 378), (vS "power" 379), (vS "/claim/cut.py" 380), (vI 102 0), (vI 2 0), (vI 0 0), (vI 0 0), (vI 3 0), (.ref 163), (.bool true), (vI 181 0), (.ref 164), .none, (.ref 165), (.ref 166), (.ref 167), (vI 383 0), (vI 102 0), (vS "/claim/cut.py" 384)]),
   (169, oFn (stm 26) "power" .none (vS "vectorcove.rational" 259) (.ref 168)),
   (189, oCode [(vS "whole_power" 403), (vS "whole_power" 404), (vS "/claim/cut.py" 405), (vI 133 0), (vI 2 0), (vI 0 0), (vI 0 0), (vI 3 0), (.ref 184), (.bool true), (vI 181 0), (.ref 185), .none, (.ref 186), (.ref 187), (.ref 188), (vI 408 0), (vI 133 0), (vS "/claim/cut.py" 409)]),
   (190, oFn (stm 29) "whole_power" .none (vS "vectorcove.rational" 259) (.ref 189)),
   (196, oCode [(vS "floor" 411), (vS "floor" 412), (vS "/claim/cut.py" 413), (vI 143 0), (vI 1 0), (vI 0 0), (vI 0 0), (vI 3 0), (.ref 191), (.bool true), (vI 181 0), (.ref 192), .none, (.ref 193), (.ref 194), (.ref 195), (vI 415 0), (vI 143 0), (vS "/claim/cut.py" 416)]),
   (197, oFn (stm 30) "floor" .none (vS "vectorcove.rational" 259) (.ref 196)),
   (217, oCode [(vS "int_div" 438), (vS "int_div" 439), (vS "/claim/cut.py" 440), (vI 164 0), (vI 2 0), (vI 0 0), (vI 0 0), (vI 3 0), (.ref 212), (.bool true), (vI 181 0), (.ref 213), .none, (.ref 214), (.ref 215), (.ref 216), (vI 444 0), (vI 164 0), (vS "/claim/cut.py" 445)]),
   (218, oFn (stm 33) "int_div" .none (vS "vectorcove.rational" 259) (.ref 217)),
   (224, oCode [(vS "remainder" 447), (vS "remainder" 448), (vS "/claim/cut.py" 449), (vI 171 0), (vI 2 0), (vI 0 0), (vI 0 0), (vI 3 0), (.ref 219), (.bool true), (vI 181 0), (.ref 220), .none, (.ref 221), (.ref 222), (.ref 223), (vI 452 0), (vI 171 0), (vS "/claim/cut.py" 453)]),
   (225, oFn (stm 34) "remainder" .none (vS "vectorcove.rational" 259) (.ref 224)),
   (231, oCode [(vS "compare" 455), (vS "compare" 456), (vS "/claim/cut.py" 457), (vI 179 0), (vI 2 0), (vI 0 0), (vI 0 0), (vI 3 0), (.ref 226), (.bool true), (vI 181 0), (.ref 227), .none, (.ref 228), (.ref 229), (.ref 230), (vI 462 0), (vI 179 0), (vS "/claim/cut.py" 463)]),
   (232, oFn (stm 35) "compare" .none (vS "vectorcove.rational" 259) (.ref 231)),
   (240, oTup [.none] 0),
   (246, oCode [(vS "__init__" 479), (vS "Vector.__init__" 480), (vS "/claim/cut.py" 481), (vI 200 0), (vI 4 0), (vI 0 0), (vI 0 0), (vI 3 0), (.ref 241), (.bool true), (vI 181 0), (.ref 242), .none, (.ref 243), (.ref 244), (.ref 245), (vI 486 0), (vI 200 0), (vS "/claim/cut.py" 487)]),
   (247, oFn (mem 37 0) "Vector.__init__" (.ref 240) (vS "vectorcove.values" 465) (.ref 246)),
   (256, oDict P [("__module__", 474, (vS "vectorcove.values" 465)), ("__firstlineno__", 478, (vI 198 477)), ("__init__", 488, (.ref 247)), ("copy", 495, (.ref 254)), ("__static_attributes__", 501, (.ref 255)), ("__dict__", 503, (.ref 258)), ("__weakref__", 505, (.ref 259)), ("__doc__", 506, .none)] 4),
   (257, oCls "Vector" [(.type "object")] [(.ref 257), (.type "object")] 256 "Vector" [] [none, none, some (vS "Vector" 467), some (vS "Vector" 475), some (.builtin "object.__new__"), some (.bool true)]),
   (274, oCode [(vS "__init__" 521), (vS "Symbol.__init__" 522), (vS "/claim/cut.py" 523), (vI 211 0), (vI 2 0), (vI 0 0), (vI 0 0), (vI 3 0), (.ref 269), (.bool true), (vI 181 0), (.ref 270), .none, (.ref 271), (.ref 272), (.ref 273), (vI 526 0), (vI 211 0), (vS "/claim/cut.py" 527)]),
   (275, oFn (mem 38 0) "Symbol.__init__" .none (vS "vectorcove.values" 465) (.ref 274)),
   (277, oDict P [("__module__", 516, (vS "vectorcove.values" 465)), ("__firstlineno__", 520, (vI 209 519)), ("__init__", 528, (.ref 275)), ("__static_attributes__", 532, (.ref 276)), ("__dict__", 534, (.ref 279)), ("__weakref__", 536, (.ref 280)), ("__doc__", 537, .none)] 4),
   (278, oCls "Symbol" [(.type "object")] [(.ref 278), (.type "object")] 277 "Symbol" [] [none, none, some (vS "Symbol" 509), some (vS "Symbol" 517), some (.builtin "object.__new__"), some (.bool true)]),
   (290, oTup [.none] 0),
   (296, oCode [(vS "__init__" 552), (vS "Call.__init__" 553), (vS "/claim/cut.py" 554), (vI 217 0), (vI 4 0), (vI 0 0), (vI 0 0), (vI 3 0), (.ref 291), (.bool true), (vI 181 0), (.ref 292), .none, (.ref 293), (.ref 294), (.ref 295), (vI 559 0), (vI 217 0), (vS "/claim/cut.py" 560)]),
   (297, oFn (mem 39 0) "Call.__init__" (.ref 290) (vS "vectorcove.values" 465) (.ref 296)),
   (299, oDict P [("__module__", 547, (vS "vectorcove.values" 465)), ("__firstlineno__", 551, (vI 215 550)), ("__init__", 561, (.ref 297)), ("__static_attributes__", 567, (.ref 298)), ("__dict__", 569, (.ref 301)), ("__weakref__", 571, (.ref 302)), ("__doc__", 572, .none)] 4),
   (300, oCls "Call" [(.type "object")] [(.ref 300), (.type "object")] 299 "Call" [] [none, none, some (vS "Call" 540), some (vS "Call" 548), some (.builtin "object.__new__"), some (.bool true)]),
   (317, oCode [(vS "length" 582), (vS "length" 583), (vS "/claim/cut.py" 584), (vI 225 0), (vI 1 0), (vI 0 0), (vI 0 0), (vI 3 0), (.ref 312), (.bool true), (vI 181 0), (.ref 313), .none, (.ref 314), (.ref 315), (.ref 316), (vI 587 0), (vI 225 0), (vS "/claim/cut.py" 588)]),
   (318, oFn (stm 41) "length" .none (vS "vectorcove.values" 465) (.ref 317)),
   (324, oCode [(vS "is_atomic" 590), (vS "is_atomic" 591), (vS "/claim/cut.py" 592), (vI 236 0), (vI 1 0), (vI 0 0), (vI 0 0), (vI 3 0), (.ref 319), (.bool true), (vI 181 0), (.ref 320), .none, (.ref 321), (.ref 322), (.ref 323), (vI 594 0), (vI 236 0), (vS "/claim/cut.py" 595)]),
   (325, oFn (stm 42) "is_atomic" .none (vS "vectorcove.values" 465) (.ref 324)),
   (331, oCode [(vS "share" 597), (vS "share" 598), (vS "/claim/cut.py" 599), (vI 238 0), (vI 1 0), (vI 0 0), (vI 0 0), (vI 3 0), (.ref 326), (.bool true), (vI 181 0), (.ref 327), .none, (.ref 328), (.ref 329), (.ref 330), (vI 601 0), (vI 238 0), (vS "/claim/cut.py" 602)]),
   (332, oFn (stm 43) "share" .none (vS "vectorcove.values" 465) (.ref 331)),
   (338, oCode [(vS "recycle_length" 608), (vS "recycle_length" 609), (vS "/claim/cut.py" 610), (vI 244 0), (vI 2 0), (vI 0 0), (vI 0 0), (vI 3 0), (.ref 333), (.bool true), (vI 181 0), (.ref 334), .none, (.ref 335), (.ref 336), (.ref 337), (vI 613 0), (vI 244 0), (vS "/claim/cut.py" 614)]),
   (339, oFn (stm 46) "recycle_length" .none (vS "vectorcove.arith" 604) (.ref 338)),
   (345, oCode [(vS "note_recycling" 616), (vS "note_recycling" 617), (vS "/claim/cut.py" 618), (vI 248 0), (vI 3 0), (vI 0 0), (vI 0 0), (vI 3 0), (.ref 340), (.bool true), (vI 181 0), (.ref 341), .none, (.ref 342), (.ref 343), (.ref 344), (vI 622 0), (vI 248 0), (vS "/claim/cut.py" 623)]),
   (346, oFn (stm 47) "note_recycling" .none (vS "vectorcove.arith" 604) (.ref 345)),
   (359, oCode [(vS "result_dim" 634), (vS "result_dim" 635), (vS "/claim/cut.py" 636), (vI 256 0), (vI 2 0), (vI 0 0), (vI 0 0), (vI 3 0), (.ref 354), (.bool true), (vI 181 0), (.ref 355), .none, (.ref 356), (.ref 357), (.ref 358), (vI 644 0), (vI 256 0), (vS "/claim/cut.py" 645)]),
   (360, oFn (stm 49) "result_dim" .none (vS "vectorcove.arith" 604) (.ref 359)),
   (366, oCode [(vS "note_array_of_one" 647), (vS "note_array_of_one" 648), (vS "/claim/cut.py" 649), (vI 276 0), (vI 3 0), (vI 0 0), (vI 0 0), (vI 3 0), (.ref 361), (.bool true), (vI 181 0), (.ref 362), .none, (.ref 363), (.ref 364), (.ref 365), (vI 656 0), (vI 276 0), (vS "/claim/cut.py" 657)]),
   (367, oFn (stm 50) "note_array_of_one" .none (vS "vectorcove.arith" 604) (.ref 366)),
   (373, oCode [(vS "common_length" 659), (vS "common_length" 660), (vS "/claim/cut.py" 661), (vI 282 0), (vI 3 0), (vI 0 0), (vI 0 0), (vI 3 0), (.ref 368), (.bool true), (vI 181 0), (.ref 369), .none, (.ref 370), (.ref 371), (.ref 372), (vI 665 0), (vI 282 0), (vS "/claim/cut.py" 666)]),
   (374, oFn (stm 51) "common_length" .none (vS "vectorcove.arith" 604) (.ref 373)),
   (380, oCode [(vS "attribute" 668), (vS "attribute" 669), (vS "/claim/cut.py" 670), (vI 287 0), (vI 2 0), (vI 0 0), (vI 0 0), (vI 3 0), (.ref 375), (.bool true), (vI 181 0), (.ref 376), .none, (.ref 377), (.ref 378), (.ref 379), (vI 673 0), (vI 287 0), (vS "/claim/cut.py" 674)]),
   (381, oFn (stm 52) "attribute" .none (vS "vectorcove.arith" 604) (.ref 380)),
   (387, oCode [(vS "shape_attrs" 676), (vS "shape_attrs" 677), (vS "/claim/cut.py" 678), (vI 291 0), (vI 3 0), (vI 0 0), (vI 0 0), (vI 3 0), (.ref 382), (.bool true), (vI 181 0), (.ref 383), .none, (.ref 384), (.ref 385), (.ref 386), (vI 686 0), (vI 291 0), (vS "/claim/cut.py" 687)]),
   (388, oFn (stm 53) "shape_attrs" .none (vS "vectorcove.arith" 604) (.ref 387)),
   (394, oCode [(vS "result_attrs" 689), (vS "result_attrs" 690), (vS "/claim/cut.py" 691), (vI 307 0), (vI 3 0), (vI 0 0), (vI 0 0), (vI 3 0), (.ref 389), (.bool true), (vI 181 0), (.ref 390), .none, (.ref 391), (.ref 392), (.ref 393), (vI 698 0), (vI 307 0), (vS "/claim/cut.py" 699)]),
   (395, oFn (stm 54) "result_attrs" .none (vS "vectorcove.arith" 604) (.ref 394)),
   (401, oCode [(vS "integer_op" 701), (vS "integer_op" 702), (vS "/claim/cut.py" 703), (vI 316 0), (vI 3 0), (vI 0 0), (vI 0 0), (vI 3 0), (.ref 396), (.bool true), (vI 181 0), (.ref 397), .none, (.ref 398), (.ref 399), (.ref 400), (vI 708 0), (vI 316 0), (vS "/claim/cut.py" 709)]),
   (402, oFn (stm 55) "integer_op" .none (vS "vectorcove.arith" 604) (.ref 401)),
   (408, oCode [(vS "double_op" 711), (vS "double_op" 712), (vS "/claim/cut.py" 713), (vI 334 0), (vI 3 0), (vI 0 0), (vI 0 0), (vI 3 0), (.ref 403), (.bool true), (vI 181 0), (.ref 404), .none, (.ref 405), (.ref 406), (.ref 407), (vI 717 0), (vI 334 0), (vS "/claim/cut.py" 718)]),
   (409, oFn (stm 56) "double_op" .none (vS "vectorcove.arith" 604) (.ref 408)),
   (415, oCode [(vS "number_items" 720), (vS "number_items" 721), (vS "/claim/cut.py" 722), (vI 348 0), (vI 1 0), (vI 0 0), (vI 0 0), (vI 3 0), (.ref 410), (.bool true), (vI 181 0), (.ref 411), .none, (.ref 412), (.ref 413), (.ref 414), (vI 724 0), (vI 348 0), (vS "/claim/cut.py" 725)]),
   (416, oFn (stm 57) "number_items" .none (vS "vectorcove.arith" 604) (.ref 415)),
   (420, oCode [(vS "double_items" 727), (vS "double_items" 728), (vS "/claim/cut.py" 729), (vI 354 0), (vI 1 0), (vI 0 0), (vI 0 0), (vI 3 0), (.ref 417), (.bool true), (vI 181 0), (.ref 418), .none, .none, .none, (.ref 419), (vI 730 0), (vI 354 0), (vS "/claim/cut.py" 731)]),
   (421, oFn (stm 58) "double_items" .none (vS "vectorcove.arith" 604) (.ref 420)),
   (427, oCode [(vS "integer_result" 734), (vS "integer_result" 735), (vS "/claim/cut.py" 736), (vI 360 0), (vI 5 0), (vI 0 0), (vI 0 0), (vI 3 0), (.ref 422), (.bool true), (vI 181 0), (.ref 423), .none, (.ref 424), (.ref 425), (.ref 426), (vI 748 0), (vI 360 0), (vS "/claim/cut.py" 749)]),
   (428, oFn (stm 60) "integer_result" .none (vS "vectorcove.arith" 604) (.ref 427)),
   (432, oCode [(vS "double_result" 751), (vS "double_result" 752), (vS "/claim/cut.py" 753), (vI 373 0), (vI 4 0), (vI 0 0), (vI 0 0), (vI 3 0), (.ref 429), (.bool true), (vI 181 0), (.ref 430), .none, .none, .none, (.ref 431), (vI 754 0), (vI 373 0), (vS "/claim/cut.py" 755)]),
   (433, oFn (stm 61) "double_result" .none (vS "vectorcove.arith" 604) (.ref 432)),
   (439, oCode [(vS "arith" 757), (vS "arith" 758), (vS "/claim/cut.py" 759), (vI 375 0), (vI 4 0), (vI 0 0), (vI 0 0), (vI 3 0), (.ref 434), (.bool true), (vI 181 0), (.ref 435), .none, (.ref 436), (.ref 437), (.ref 438), (vI 768 0), (vI 375 0), (vS "/claim/cut.py" 769)]),
   (440, oFn (stm 62) "arith" .none (vS "vectorcove.arith" 604) (.ref 439)),
   (446, oCode [(vS "keep_all" 771), (vS "keep_all" 772), (vS "/claim/cut.py" 773), (vI 385 0), (vI 2 0), (vI 0 0), (vI 0 0), (vI 3 0), (.ref 441), (.bool true), (vI 181 0), (.ref 442), .none, (.ref 443), (.ref 444), (.ref 445), (vI 776 0), (vI 385 0), (vS "/claim/cut.py" 777)]),
   (447, oFn (stm 63) "keep_all" .none (vS "vectorcove.arith" 604) (.ref 446)),
   (453, oCode [(vS "check_unary" 779), (vS "check_unary" 780), (vS "/claim/cut.py" 781), (vI 389 0), (vI 1 0), (vI 0 0), (vI 0 0), (vI 3 0), (.ref 448), (.bool true), (vI 181 0), (.ref 449), .none, (.ref 450), (.ref 451), (.ref 452), (vI 783 0), (vI 389 0), (vS "/claim/cut.py" 784)]),
   (454, oFn (stm 64) "check_unary" .none (vS "vectorcove.arith" 604) (.ref 453)),
   (458, oCode [(vS "negate" 786), (vS "negate" 787), (vS "/claim/cut.py" 788), (vI 392 0), (vI 2 0), (vI 0 0), (vI 0 0), (vI 3 0), (.ref 455), (.bool true), (vI 181 0), (.ref 456), .none, .none, .none, (.ref 457), (vI 789 0), (vI 392 0), (vS "/claim/cut.py" 790)]),
   (459, oFn (stm 65) "negate" .none (vS "vectorcove.arith" 604) (.ref 458)),
   (542, oTup [(vI 7 915)] 0),
   (562, oCode [(vS "holds" 936), (vS "holds" 937), (vS "/claim/cut.py" 938), (vI 506 0), (vI 2 0), (vI 0 0), (vI 0 0), (vI 3 0), (.ref 557), (.bool true), (vI 181 0), (.ref 558), .none, (.ref 559), (.ref 560), (.ref 561), (vI 942 0), (vI 506 0), (vS "/claim/cut.py" 943)]),
   (563, oFn (stm 83) "holds" .none (vS "vectorcove.compare" 934) (.ref 562)),
   (569, oCode [(vS "plain_order" 945), (vS "plain_order" 946), (vS "/claim/cut.py" 947), (vI 522 0), (vI 2 0), (vI 0 0), (vI 0 0), (vI 3 0), (.ref 564), (.bool true), (vI 181 0), (.ref 565), .none, (.ref 566), (.ref 567), (.ref 568), (vI 950 0), (vI 522 0), (vS "/claim/cut.py" 951)]),
   (570, oFn (stm 84) "plain_order" .none (vS "vectorcove.compare" 934) (.ref 569)),
   (576, oCode [(vS "comparable" 953), (vS "comparable" 954), (vS "/claim/cut.py" 955), (vI 528 0), (vI 3 0), (vI 0 0), (vI 0 0), (vI 3 0), (.ref 571), (.bool true), (vI 181 0), (.ref 572), .none, (.ref 573), (.ref 574), (.ref 575), (vI 959 0), (vI 528 0), (vS "/claim/cut.py" 960)]),
   (577, oFn (stm 85) "comparable" .none (vS "vectorcove.compare" 934) (.ref 576)),
   (586, oCode [(vS "double_items" 968), (vS "double_items" 969), (vS "/claim/cut.py" 970), (vI 544 0), (vI 1 0), (vI 0 0), (vI 0 0), (vI 3 0), (.ref 583), (.bool true), (vI 181 0), (.ref 584), .none, .none, .none, (.ref 585), (vI 971 0), (vI 544 0), (vS "/claim/cut.py" 972)]),
   (586, oCode [(vS "double_items" 968), (vS "double_items" 969), (vS "/claim/cut.py" 970), (vI 544 0), (vI 1 0), (vI 0 0), (vI 0 0), (vI 3 0), (.ref 583), (.bool true), (vI 181 0), (.ref 584), .none, .none, .none, (.ref 585), (vI 971 0), (vI 544 0), (vS "/claim/cut.py" 972)]),
   (587, oFn (stm 87) "double_items" .none (vS "vectorcove.compare" 934) (.ref 586)),
   (587, oFn (stm 87) "double_items" .none (vS "vectorcove.compare" 934) (.ref 586)),
   (588, oTup [.none] 0),
   (592, oCode [(vS "compare_op" 975), (vS "compare_op" 976), (vS "/claim/cut.py" 977), (vI 549 0), (vI 5 0), (vI 0 0), (vI 0 0), (vI 3 0), (.ref 589), (.bool true), (vI 181 0), (.ref 590), .none, .none, .none, (.ref 591), (vI 978 0), (vI 549 0), (vS "/claim/cut.py" 979)]),
   (593, oFn (stm 89) "compare_op" (.ref 588) (vS "vectorcove.compare" 934) (.ref 592)),
   (599, oCode [(vS "and_items" 983), (vS "and_items" 984), (vS "/claim/cut.py" 985), (vI 570 0), (vI 2 0), (vI 0 0), (vI 0 0), (vI 3 0), (.ref 594), (.bool true), (vI 181 0), (.ref 595), .none, (.ref 596), (.ref 597), (.ref 598), (vI 988 0), (vI 570 0), (vS "/claim/cut.py" 989)]),
   (600, oFn (stm 91) "and_items" .none (vS "vectorcove.logic" 981) (.ref 599)),
   (606, oCode [(vS "or_items" 991), (vS "or_items" 992), (vS "/claim/cut.py" 993), (vI 576 0), (vI 2 0), (vI 0 0), (vI 0 0), (vI 3 0), (.ref 601), (.bool true), (vI 181 0), (.ref 602), .none, (.ref 603), (.ref 604), (.ref 605), (vI 996 0), (vI 576 0), (vS "/claim/cut.py" 997)]),
   (607, oFn (stm 92) "or_items" .none (vS "vectorcove.logic" 981) (.ref 606)),
   (613, oCode [(vS "not_item" 999), (vS "not_item" 1000), (vS "/claim/cut.py" 1001), (vI 582 0), (vI 1 0), (vI 0 0), (vI 0 0), (vI 3 0), (.ref 608), (.bool true), (vI 181 0), (.ref 609), .none, (.ref 610), (.ref 611), (.ref 612), (vI 1003 0), (vI 582 0), (vS "/claim/cut.py" 1004)]),
   (614, oFn (stm 93) "not_item" .none (vS "vectorcove.logic" 981) (.ref 613)),
   (620, oCode [(vS "truth_item" 1006), (vS "truth_item" 1007), (vS "/claim/cut.py" 1008), (vI 586 0), (vI 2 0), (vI 0 0), (vI 0 0), (vI 3 0), (.ref 615), (.bool true), (vI 181 0), (.ref 616), .none, (.ref 617), (.ref 618), (.ref 619), (vI 1011 0), (vI 586 0), (vS "/claim/cut.py" 1012)]),
   (621, oFn (stm 94) "truth_item" .none (vS "vectorcove.logic" 981) (.ref 620)),
   (625, oCode [(vS "truth_items" 1014), (vS "truth_items" 1015), (vS "/claim/cut.py" 1016), (vI 594 0), (vI 1 0), (vI 0 0), (vI 0 0), (vI 3 0), (.ref 622), (.bool true), (vI 181 0), (.ref 623), .none, .none, .none, (.ref 624), (vI 1017 0), (vI 594 0), (vS "/claim/cut.py" 1018)]),
   (626, oFn (stm 95) "truth_items" .none (vS "vectorcove.logic" 981) (.ref 625)),
   (632, oCode [(vS "logic_operand" 1020), (vS "logic_operand" 1021), (vS "/claim/cut.py" 1022), (vI 596 0), (vI 1 0), (vI 0 0), (vI 0 0), (vI 3 0), (.ref 627), (.bool true), (vI 181 0), (.ref 628), .none, (.ref 629), (.ref 630), (.ref 631), (vI 1024 0), (vI 596 0), (vS "/claim/cut.py" 1025)]),
   (633, oFn (stm 96) "logic_operand" .none (vS "vectorcove.logic" 981) (.ref 632)),
   (637, oCode [(vS "logic_pairs" 1027), (vS "logic_pairs" 1028), (vS "/claim/cut.py" 1029), (vI 602 0), (vI 4 0), (vI 0 0), (vI 0 0), (vI 3 0), (.ref 634), (.bool true), (vI 181 0), (.ref 635), .none, .none, .none, (.ref 636), (vI 1030 0), (vI 602 0), (vS "/claim/cut.py" 1031)]),
   (638, oFn (stm 97) "logic_pairs" .none (vS "vectorcove.logic" 981) (.ref 637)),
   (644, oCode [(vS "logic_and" 1033), (vS "logic_and" 1034), (vS "/claim/cut.py" 1035), (vI 610 0), (vI 3 0), (vI 0 0), (vI 0 0), (vI 3 0), (.ref 639), (.bool true), (vI 181 0), (.ref 640), .none, (.ref 641), (.ref 642), (.ref 643), (vI 1039 0), (vI 610 0), (vS "/claim/cut.py" 1040)]),
   (645, oFn (stm 98) "logic_and" .none (vS "vectorcove.logic" 981) (.ref 644)),
   (651, oCode [(vS "logic_or" 1042), (vS "logic_or" 1043), (vS "/claim/cut.py" 1044), (vI 612 0), (vI 3 0), (vI 0 0), (vI 0 0), (vI 3 0), (.ref 646), (.bool true), (vI 181 0), (.ref 647), .none, (.ref 648), (.ref 649), (.ref 650), (vI 1048 0), (vI 612 0), (vS "/claim/cut.py" 1049)]),
   (652, oFn (stm 99) "logic_or" .none (vS "vectorcove.logic" 981) (.ref 651)),
   (656, oCode [(vS "logic_not" 1051), (vS "logic_not" 1052), (vS "/claim/cut.py" 1053), (vI 614 0), (vI 1 0), (vI 0 0), (vI 0 0), (vI 3 0), (.ref 653), (.bool true), (vI 181 0), (.ref 654), .none, .none, .none, (.ref 655), (vI 1054 0), (vI 614 0), (vS "/claim/cut.py" 1055)]),
   (657, oFn (stm 100) "logic_not" .none (vS "vectorcove.logic" 981) (.ref 656)),
   (663, oCode [(vS "arith_names" 1059), (vS "arith_names" 1060), (vS "/claim/cut.py" 1061), (vI 627 0), (vI 0 0), (vI 0 0), (vI 0 0), (vI 3 0), (.ref 658), (.bool true), (vI 181 0), (.ref 659), .none, (.ref 660), (.ref 661), (.ref 662), (vI 1062 0), (vI 627 0), (vS "/claim/cut.py" 1063)]),
   (664, oFn (stm 102) "arith_names" .none (vS "vectorcove.fold" 1057) (.ref 663)),
   (670, oCode [(vS "compare_names" 1065), (vS "compare_names" 1066), (vS "/claim/cut.py" 1067), (vI 629 0), (vI 0 0), (vI 0 0), (vI 0 0), (vI 3 0), (.ref 665), (.bool true), (vI 181 0), (.ref 666), .none, (.ref 667), (.ref 668), (.ref 669), (vI 1068 0), (vI 629 0), (vS "/claim/cut.py" 1069)]),
   (671, oFn (stm 103) "compare_names" .none (vS "vectorcove.fold" 1057) (.ref 670)),
   (677, oCode [(vS "safe_names" 1071), (vS "safe_names" 1072), (vS "/claim/cut.py" 1073), (vI 631 0), (vI 0 0), (vI 0 0), (vI 0 0), (vI 3 0), (.ref 672), (.bool true), (vI 181 0), (.ref 673), .none, (.ref 674), (.ref 675), (.ref 676), (vI 1074 0), (vI 631 0), (vS "/claim/cut.py" 1075)]),
   (678, oFn (stm 104) "safe_names" .none (vS "vectorcove.fold" 1057) (.ref 677)),
   (684, oCode [(vS "is_constant" 1077), (vS "is_constant" 1078), (vS "/claim/cut.py" 1079), (vI 633 0), (vI 1 0), (vI 0 0), (vI 0 0), (vI 3 0), (.ref 679), (.bool true), (vI 181 0), (.ref 680), .none, (.ref 681), (.ref 682), (.ref 683), (vI 1081 0), (vI 633 0), (vS "/claim/cut.py" 1082)]),
   (685, oFn (stm 105) "is_constant" .none (vS "vectorcove.fold" 1057) (.ref 684)),
   (691, oCode [(vS "plain_call_name" 1084), (vS "plain_call_name" 1085), (vS "/claim/cut.py" 1086), (vI 635 0), (vI 1 0), (vI 0 0), (vI 0 0), (vI 3 0), (.ref 686), (.bool true), (vI 181 0), (.ref 687), .none, (.ref 688), (.ref 689), (.ref 690), (vI 1089 0), (vI 635 0), (vS "/claim/cut.py" 1090)]),
   (692, oFn (stm 106) "plain_call_name" .none (vS "vectorcove.fold" 1057) (.ref 691)),
   (698, oCode [(vS "unary_value" 1092), (vS "unary_value" 1093), (vS "/claim/cut.py" 1094), (vI 642 0), (vI 3 0), (vI 0 0), (vI 0 0), (vI 3 0), (.ref 693), (.bool true), (vI 181 0), (.ref 694), .none, (.ref 695), (.ref 696), (.ref 697), (vI 1098 0), (vI 642 0), (vS "/claim/cut.py" 1099)]),
   (699, oFn (stm 107) "unary_value" .none (vS "vectorcove.fold" 1057) (.ref 698)),
   (705, oCode [(vS "binary_value" 1101), (vS "binary_value" 1102), (vS "/claim/cut.py" 1103), (vI 652 0), (vI 4 0), (vI 0 0), (vI 0 0), (vI 3 0), (.ref 700), (.bool true), (vI 181 0), (.ref 701), .none, (.ref 702), (.ref 703), (.ref 704), (vI 1108 0), (vI 652 0), (vS "/claim/cut.py" 1109)]),
   (706, oFn (stm 108) "binary_value" .none (vS "vectorcove.fold" 1057) (.ref 705)),
   (712, oCode [(vS "call_value" 1111), (vS "call_value" 1112), (vS "/claim/cut.py" 1113), (vI 662 0), (vI 2 0), (vI 0 0), (vI 0 0), (vI 3 0), (.ref 707), (.bool true), (vI 181 0), (.ref 708), .none, (.ref 709), (.ref 710), (.ref 711), (vI 1118 0), (vI 662 0), (vS "/claim/cut.py" 1119)]),
   (713, oFn (stm 109) "call_value" .none (vS "vectorcove.fold" 1057) (.ref 712)),
   (719, oCode [(vS "fold" 1121), (vS "fold" 1122), (vS "/claim/cut.py" 1123), (vI 675 0), (vI 2 0), (vI 0 0), (vI 0 0), (vI 3 0), (.ref 714), (.bool true), (vI 181 0), (.ref 715), .none, (.ref 716), (.ref 717), (.ref 718), (vI 1131 0), (vI 675 0), (vS "/claim/cut.py" 1132)]),
   (720, oFn (stm 110) "fold" .none (vS "vectorcove.fold" 1057) (.ref 719)),
   (726, oCode [(vS "fold_uses" 1134), (vS "fold_uses" 1135), (vS "/claim/cut.py" 1136), (vI 691 0), (vI 1 0), (vI 0 0), (vI 0 0), (vI 3 0), (.ref 721), (.bool true), (vI 181 0), (.ref 722), .none, (.ref 723), (.ref 724), (.ref 725), (vI 1142 0), (vI 691 0), (vS "/claim/cut.py" 1143)]),
   (727, oFn (stm 111) "fold_uses" .none (vS "vectorcove.fold" 1057) (.ref 726)),
   (733, oCode [(vS "_law_pool" 1147), (vS "_law_pool" 1148), (vS "/claim/cut.py" 1149), (vI 704 0), (vI 1 0), (vI 0 0), (vI 0 0), (vI 3 0), (.ref 728), (.bool true), (vI 181 0), (.ref 729), .none, (.ref 730), (.ref 731), (.ref 732), (vI 1157 0), (vI 704 0), (vS "/claim/cut.py" 1158)]),
   (734, oFn (stm 113) "_law_pool" .none (vS "law_nz0521_01" 1145) (.ref 733)),
   (740, oCode [(vS "_law_pick" 1160), (vS "_law_pick" 1161), (vS "/claim/cut.py" 1162), (vI 719 0), (vI 2 0), (vI 0 0), (vI 0 0), (vI 3 0), (.ref 735), (.bool true), (vI 181 0), (.ref 736), .none, (.ref 737), (.ref 738), (.ref 739), (vI 1166 0), (vI 719 0), (vS "/claim/cut.py" 1167)]),
   (741, oFn (stm 114) "_law_pick" .none (vS "law_nz0521_01" 1145) (.ref 740)),
   (747, oCode [(vS "_law_reduced" 1169), (vS "_law_reduced" 1170), (vS "/claim/cut.py" 1171), (vI 729 0), (vI 2 0), (vI 0 0), (vI 0 0), (vI 3 0), (.ref 742), (.bool true), (vI 181 0), (.ref 743), .none, (.ref 744), (.ref 745), (.ref 746), (vI 1176 0), (vI 729 0), (vS "/claim/cut.py" 1177)]),
   (748, oFn (stm 115) "_law_reduced" .none (vS "law_nz0521_01" 1145) (.ref 747)),
   (752, oCode [(vS "_law_tree" 1179), (vS "_law_tree" 1180), (vS "/claim/cut.py" 1181), (vI 736 0), (vI 3 0), (vI 0 0), (vI 0 0), (vI 3 0), (.ref 749), (.bool true), (vI 181 0), (.ref 750), .none, .none, .none, (.ref 751), (vI 1182 0), (vI 736 0), (vS "/claim/cut.py" 1183)]),
   (753, oFn (stm 116) "_law_tree" .none (vS "law_nz0521_01" 1145) (.ref 752)),
   (757, oCode [(vS "_law_value" 1185), (vS "_law_value" 1186), (vS "/claim/cut.py" 1187), (vI 748 0), (vI 1 0), (vI 0 0), (vI 0 0), (vI 3 0), (.ref 754), (.bool true), (vI 181 0), (.ref 755), .none, .none, .none, (.ref 756), (vI 1188 0), (vI 748 0), (vS "/claim/cut.py" 1189)]),
   (758, oFn (stm 117) "_law_value" .none (vS "law_nz0521_01" 1145) (.ref 757)),
   (764, oCode [(vS "_law_pair" 1191), (vS "_law_pair" 1192), (vS "/claim/cut.py" 1193), (vI 757 0), (vI 1 0), (vI 0 0), (vI 0 0), (vI 3 0), (.ref 759), (.bool true), (vI 181 0), (.ref 760), .none, (.ref 761), (.ref 762), (.ref 763), (vI 1195 0), (vI 757 0), (vS "/claim/cut.py" 1196)]),
   (765, oFn (stm 118) "_law_pair" .none (vS "law_nz0521_01" 1145) (.ref 764)),
   (771, oCode [(vS "_law_numbers" 1198), (vS "_law_numbers" 1199), (vS "/claim/cut.py" 1200), (vI 759 0), (vI 3 0), (vI 0 0), (vI 0 0), (vI 3 0), (.ref 766), (.bool true), (vI 181 0), (.ref 767), .none, (.ref 768), (.ref 769), (.ref 770), (vI 1211 0), (vI 759 0), (vS "/claim/cut.py" 1212)]),
   (772, oFn (stm 119) "_law_numbers" .none (vS "law_nz0521_01" 1145) (.ref 771)),
   (776, oCode [(vS "_law_reckoned" 1214), (vS "_law_reckoned" 1215), (vS "/claim/cut.py" 1216), (vI 777 0), (vI 1 0), (vI 0 0), (vI 0 0), (vI 3 0), (.ref 773), (.bool true), (vI 181 0), (.ref 774), .none, .none, .none, (.ref 775), (vI 1217 0), (vI 777 0), (vS "/claim/cut.py" 1218)]),
   (777, oFn (stm 120) "_law_reckoned" .none (vS "law_nz0521_01" 1145) (.ref 776)),
   (783, oCode [(vS "_law_uses" 1220), (vS "_law_uses" 1221), (vS "/claim/cut.py" 1222), (vI 805 0), (vI 2 0), (vI 0 0), (vI 0 0), (vI 3 0), (.ref 778), (.bool true), (vI 181 0), (.ref 779), .none, (.ref 780), (.ref 781), (.ref 782), (vI 1226 0), (vI 805 0), (vS "/claim/cut.py" 1227)]),
   (784, oFn (stm 121) "_law_uses" .none (vS "law_nz0521_01" 1145) (.ref 783)),
   (788, oCode [(vS "law" 1229), (vS "law" 1230), (vS "/claim/cut.py" 1231), (vI 812 0), (vI 1 0), (vI 0 0), (vI 0 0), (vI 3 0), (.ref 785), (.bool true), (vI 181 0), (.ref 786), .none, .none, .none, (.ref 787), (vI 1232 0), (vI 812 0), (vS "/claim/cut.py" 1233)]),
   (789, oFn (stm 122) "law" .none (vS "law_nz0521_01" 1145) (.ref 788))]
end Mine
end
section
open PySem PySem.W PySem.Spec PySem.Calls PyProof.Rows
set_option Elab.async false
set_option maxRecDepth 100000
namespace Mine
noncomputable def topT (tb : String → Option Builtin) (p : Program) (w : World) (n₀ : Nat) (ann : Option Value) : Nat → SharedT → Thread → Option SharedT
  | 0, _, _ => none
  | n + 1, s, t => match through t with
    | true => some s
    | false => match stepOk n₀ ann t with
      | false => none
      | true => match stepT (denote tb) p w s t with
        | some (s', t') => topT tb p w n₀ ann n s' t'
        | none => none
theorem topT_spec {tb : String → Option Builtin} {p : Program} {w : World} {n₀ : Nat} {ann : Option Value} : ∀ {n : Nat} {s s' : SharedT} {t : Thread}, topT tb p w n₀ ann n s t = some s' → topRun tb p w n₀ ann n s.abs t = some s'.abs
  | 0, _, _, _, h => by cases h
  | n + 1, s, s', t, h => by
    unfold topT at h
    unfold topRun
    cases ht : through t with
    | true => rw [ht] at h; cases h; rfl
    | false =>
      rw [ht] at h
      cases hk : stepOk n₀ ann t with
      | false => rw [hk] at h; cases h
      | true =>
        rw [hk] at h
        cases hs : stepT (denote tb) p w s t with
        | none => rw [hs] at h; cases h
        | some r => obtain ⟨s₂, t₂⟩ := r; rw [hs] at h; rw [stepT_spec hs]; exact topT_spec h
noncomputable def treeFrom : List Obj → BT → Nat → BT
  | [], t, _ => t
  | o :: l, t, n => treeFrom l (t.ins n o) (n + 1)
noncomputable def boot0 (P : Params) (os : OsState) : SharedT := ⟨treeFrom (boot_heap P).objs.toList .nil 0, (boot_heap P).objs.size, (boot_heap P).life, Array.mk [], boot_drawn, boot_toks, os⟩
theorem boot0_abs (P : Params) (os : OsState) : (boot0 P os).abs = ⟨boot_heap P, Array.mk [], boot_drawn, boot_toks, os⟩ := by kernel_rfl
noncomputable def getT (t : BT) (n a : Nat) : Option Obj := match Nat.blt a n with
  | true => alive ((t.get a).getD default)
  | false => none
theorem getT_spec (t : BT) (n : Nat) (life : Life) (a : Nat) : (absHeap t n life).get? a = getT t n a := by
  unfold getT
  by_cases h : a < n
  · rw [show Nat.blt a n = true from Nat.ble_eq.mpr h]
    cases g : t.get a with
    | some o => exact abs_get h g
    | none => unfold Heap.get?; rw [absHeap_at, if_pos h, g]; rfl
  · cases q : Nat.blt a n with
    | true => exact absurd (Nat.ble_eq.mp q) h
    | false => exact abs_get_none h
noncomputable def lookT (p q : Program) (loose : List Str) (P : Params) (s : Shared) :=
  (staticsOk (importedModules p.main.body) (boot_heap P) s.heap && namesBound p s.heap && gensDone s && laidKept (boot_heap P) s.heap,
   openSeen q loose (importedModules p.main.body) (fun s => xlAt q [] s && recOk [] s) true s)
noncomputable def wholeT (p q : Program) (loose : List Str) (as : List Addr) (w : World) (os : OsState) :=
  (topT treeTable p w (boot_heap w.params).objs.size ((boot_heap w.params).nsMap mainGlobals "__annotations__") 8000 (boot0 w.params os) (topStub p)).map fun S => (lookT p q loose w.params S.abs, as.map (getT S.tree S.n))
theorem left_whole {p q : Program} {loose : List Str} {as : List Addr} {N : Nat} {K : Params → Frag}
    (open_ : ∀ w : World, (fencedOpening treeTable p w N).map (fun s => (s.heap, s.gens, s.drawn, s.toks)) = some (boot_heap w.params, Array.mk [], boot_drawn, boot_toks))
    (size : ∀ P : Params, (boot_heap P).isNs mainGlobals = true) (le : Nat.ble 8000 N = true)
    (run : ∀ w os, wholeT p q loose as w os = some ((true, openGood q loose), (K w.params).map fun x => some x.2)) :
    LeftO p q loose (fun s => xlAt q [] s && recOk [] s) (fun s => as.map s.heap.get?) (fun w => (K w.params).map fun x => some x.2) N true := fun w => by
  obtain ⟨⟨h, gs, d, k, os⟩, e, e'⟩ := Option.map_eq_some_iff.mp (open_ w)
  obtain ⟨rfl, rfl, rfl, rfl⟩ : h = boot_heap w.params ∧ gs = Array.mk [] ∧ d = boot_drawn ∧ k = boot_toks := by simpa using e'
  obtain ⟨S, r1, r2⟩ := Option.map_eq_some_iff.mp (run w os)
  have r := topT_spec r1
  rw [boot0_abs] at r
  have r := topRun_mono (N - 8000) _ _ _ _ r
  rw [show 8000 + (N - 8000) = N by have := Nat.le_of_ble_eq_true le; omega] at r
  obtain ⟨r2, r3⟩ := Prod.mk.inj r2
  unfold lookT at r2
  obtain ⟨l1, l2⟩ := Prod.mk.inj r2
  rw [← show S.abs.heap.get? = getT S.tree S.n from funext fun a => getT_spec _ _ _ _] at r3
  have t : topFrom treeTable p w N ⟨boot_heap w.params, Array.mk [], boot_drawn, boot_toks, os⟩ = some S.abs := by
    unfold topFrom
    dsimp only
    have z1 : ((boot_heap w.params).isNs mainGlobals && (Array.mk [] : Array GenState).size == 0) = true := by rw [size]; rfl
    rw [z1, r]
    show (match staticsOk (importedModules p.main.body) (boot_heap w.params) S.abs.heap && namesBound p S.abs.heap && gensDone S.abs && laidKept (boot_heap w.params) S.abs.heap with | true => _ | false => _) = _
    rw [l1]
  unfold openEnds
  rw [e]
  show (topFrom treeTable p w N _).map _ = _
  rw [t]
  exact congrArg some (Prod.mk.injEq .. ▸ ⟨l2, r3⟩)
theorem wholeT_self : wholeT = wholeT := rfl
end Mine
name_quick wholeQ for Mine.wholeT by Mine.wholeT_self
end
section
open PySem PySem.W PySem.Spec PySem.Calls PyProof.Rows
set_option Elab.async false
set_option maxRecDepth 100000
namespace Mine
noncomputable abbrev HA : List Addr := [3, 27, 28, 34, 35, 44, 45, 61, 62, 64, 65, 68, 69, 70, 71, 77, 78, 84, 85, 91, 92, 98, 99, 105, 106, 119, 120, 126, 127, 133, 134, 140, 141, 147, 148, 168, 169, 189, 190, 196, 197, 217, 218, 224, 225, 231, 232, 240, 246, 247, 256, 257, 274, 275, 277, 278, 290, 296, 297, 299, 300, 317, 318, 324, 325, 331, 332, 338, 339, 345, 346, 359, 360, 366, 367, 373, 374, 380, 381, 387, 388, 394, 395, 401, 402, 408, 409, 415, 416, 420, 421, 427, 428, 432, 433, 439, 440, 446, 447, 453, 454, 458, 459, 542, 562, 563, 569, 570, 576, 577, 586, 586, 587, 587, 588, 592, 593, 599, 600, 606, 607, 613, 614, 620, 621, 625, 626, 632, 633, 637, 638, 644, 645, 651, 652, 656, 657, 663, 664, 670, 671, 677, 678, 684, 685, 691, 692, 698, 699, 705, 706, 712, 713, 719, 720, 726, 727, 733, 734, 740, 741, 747, 748, 752, 753, 757, 758, 764, 765, 771, 772, 776, 777, 783, 784, 788, 789]
noncomputable abbrev QV : Program := { PW with main := { PW.main with body := [stm 122] } }
noncomputable abbrev LN : List Str := (PW.main.scope.names.map (·.1)).filter fun n => !(n == Str.ofString "law") && !startupNames.contains n
theorem whole_ok : ∀ w os, PySem.W.Fast.wholeQ PW QV LN HA w os = some ((true, openGood QV LN), (HK w.params).map fun x => some x.2) := fun w os => by kernel_rfl
end Mine
end
section
open PySem PySem.W PySem.Spec PySem.Calls PyProof.Rows
set_option Elab.async false
set_option maxRecDepth 100000
namespace Mine
noncomputable def wellP (p : Program) : Bool := OpenLaw.wellSaid { prog := p, name := Str.ofString "law", about := [Str.ofString "fold"], foot := 10, most := some 63, bound := none, writes := false }
theorem wellP_self : wellP = wellP := rfl
noncomputable def loP (p : Program) : Bool := looksOpen p
theorem loP_self : loP = loP := rfl
end Mine
name_quick wellQ for Mine.wellP by Mine.wellP_self
name_quick loQ for Mine.loP by Mine.loP_self
namespace Mine
theorem lo_said : ∀ p, p = PW → PySem.W.Fast.loQ p = true := by
  intro p e
  refine look_both ?_ ?_
  all_goals repeat' with_reducible apply look_both
  all_goals subst e
  all_goals decide +kernel
theorem well_at : ∀ p, p = PW → PySem.W.Fast.wellQ p = true := by
  intro p e
  refine look_both ?_ ?_
  all_goals repeat' with_reducible apply look_both
  · refine look_both (look_both ?_ ?_) ?_
    · refine look_both ?_ ?_
      all_goals repeat' with_reducible apply look_both
      · exact lo_said p e
      all_goals subst e
      all_goals decide +kernel
    all_goals subst e
    all_goals decide +kernel
  all_goals subst e
  all_goals decide +kernel
theorem well_said : PySem.Challenge.rw_nz0521_01.wellSaid = true := (congrFun PySem.W.Fast.wellQ_eq PW).trans (well_at PW rfl)
end Mine
end
section
open PySem PySem.W PySem.Spec PySem.Calls PyProof.Rows
set_option Elab.async false
namespace Mine
structure Cx where
  prog : Program
  w : World
  K : Frag
  p : Program
  loose : List Str
  mg : Str → Option Value
  mb : Str → Option Value
  S0 : Shared
  X : K.In S0.heap
  T : TopRead p loose mg mb S0.heap
inductive AV where
  | d (p : PyData)
  | tup (l : List AV)
  | lst (l : List AV)
  | vec (k : Str) (items : List PyData)
  | sym (n : Str)
  | call (items : List AV) (tags : List PyData)
  | fn (n : Str)
  | cv (v : Value)
  | lref (a : Addr)
  | rng (n : Int)
  | dct (ks : List Str) (l : List AV)
  | undef
noncomputable abbrev Loc := List (Str × AV)
noncomputable abbrev Sig := List (Addr × List AV)
structure Gh where
  Z : Heap
  V : Addr → Option (Value × Value)
structure Gh.le (g g' : Gh) : Prop where
  z : ∀ b o, g.Z.get? b = some o → g'.Z.get? b = some o
  v : ∀ d x, g.V d = some x → g'.V d = some x
theorem Gh.le.refl (g : Gh) : g.le g := ⟨fun _ _ e => e, fun _ _ e => e⟩
theorem Gh.le.trans {g g' g'' : Gh} (x : g.le g') (y : g'.le g'') : g.le g'' := ⟨fun b o e => y.z b o (x.z b o e), fun d z e => y.v d z (x.v d z e)⟩
mutual
inductive VR (cx : Cx) (g : Gh) : AV → Value → Prop
  | d {p v as} : Reads g.Z v p as → VR cx g (.d p) v
  | tup {a vs n l} : g.Z.get? a = some { cls := .type "tuple", data := .seq vs n } → VRs cx g l vs.toList → VR cx g (.tup l) (.ref a)
  | lst {a vs n l} : g.Z.get? a = some { cls := .type "list", data := .seq vs n } → VRs cx g l vs.toList → VR cx g (.lst l) (.ref a)
  | vec {a d C k t iv items as} : nsIn cx.K mainGlobals "Vector" = some (some (.ref C)) → g.Z.get? a = some (instObj C d) → g.V d = some (.str k t, iv) → Reads g.Z iv (.list items) as → VR cx g (.vec k items) (.ref a)
  | sym {a d C es n t t' nm} : nsIn cx.K mainGlobals "Symbol" = some (some (.ref C)) → g.Z.get? a = some (instObj C d) → g.Z.get? d = some (dictOf es n) →
      getL "kind" es = some (some (.str "symbol" t)) → getL "name" es = some (some (.str nm t')) → getL "attrs" es = some (some .none) → VR cx g (.sym nm) (.ref a)
  | call {a d C es n t iv tv vs m items tags as} : nsIn cx.K mainGlobals "Call" = some (some (.ref C)) → g.Z.get? a = some (instObj C d) → g.Z.get? d = some (dictOf es n) →
      getL "kind" es = some (some (.str "language" t)) → getL "items" es = some (some (.ref iv)) → getL "tags" es = some (some tv) → getL "attrs" es = some (some .none) →
      g.Z.get? iv = some { cls := .type "list", data := .seq vs m } → VRs cx g items vs.toList → Reads g.Z tv (.list tags) as → VR cx g (.call items tags) (.ref a)
  | fn {n v} : nsIn cx.K mainGlobals n = some (some v) → VR cx g (.fn n) v
  | cv {v} : VR cx g (.cv v) v
  | lref {a} : VR cx g (.lref a) (.ref a)
  | dct {a ks vs l} : (a == sysModules) = false → g.Z.DictOf (PySem.strKind cx.prog cx.w) a (ks.zip vs) → ks.length = vs.length → VRs cx g l vs → VR cx g (.dct ks l) (.ref a)
  | rng {a n t u v} : IsRange g.Z a 0 n 1 t u v → VR cx g (.rng n) (.ref a)
inductive VRs (cx : Cx) (g : Gh) : List AV → List Value → Prop
  | nil : VRs cx g [] []
  | cons {a v l vs} : VR cx g a v → VRs cx g l vs → VRs cx g (a :: l) (v :: vs)
end
theorem VRs.mono_of {cx : Cx} {g g' : Gh} (L : g.le g') : (∀ {a v}, VR cx g a v → VR cx g' a v) ∧ ∀ {l vs}, VRs cx g l vs → VRs cx g' l vs := by
  refine ⟨fun h => ?_, fun h => ?_⟩
  all_goals
    refine' h.rec (motive_1 := fun a v _ => VR cx g' a v) (motive_2 := fun l vs _ => VRs cx g' l vs) ?_ ?_ ?_ ?_ ?_ ?_ ?_ ?_ ?_ ?_ ?_ ?_ ?_
    · exact fun h => .d (Reads.keeps L.z h)
    · exact fun h1 _ ih => .tup (L.z _ _ h1) ih
    · exact fun h1 _ ih => .lst (L.z _ _ h1) ih
    · exact fun h0 h1 h2 h3 => .vec h0 (L.z _ _ h1) (L.v _ _ h2) (Reads.keeps L.z h3)
    · exact fun h0 h1 h2 h3 h4 h5 => .sym h0 (L.z _ _ h1) (L.z _ _ h2) h3 h4 h5
    · exact fun h0 h1 h2 h3 h4 h5 h6 h7 _ h11 ih => .call h0 (L.z _ _ h1) (L.z _ _ h2) h3 h4 h5 h6 (L.z _ _ h7) ih (Reads.keeps L.z h11)
    · exact fun h => .fn h
    · exact .cv
    · exact .lref
    · exact fun h1 h2 h3 _ ih => .dct h1 (let ⟨o, es, ep, e, r⟩ := h2; ⟨o, es, ep, L.z _ _ e, r⟩) h3 ih
    · exact fun h => .rng (L.z _ _ h)
    · exact .nil
    · exact fun _ _ ih t => .cons ih t
theorem VR.mono {cx : Cx} {g g' : Gh} (L : g.le g') {a v} (h : VR cx g a v) : VR cx g' a v := (VRs.mono_of L).1 h
theorem VRs.mono {cx : Cx} {g g' : Gh} (L : g.le g') {a v} (h : VRs cx g a v) : VRs cx g' a v := (VRs.mono_of L).2 h
theorem VRs.ind {cx : Cx} {g : Gh} {M : List AV → List Value → Prop} (n : M [] []) (c : ∀ {a v l vs}, VR cx g a v → VRs cx g l vs → M l vs → M (a :: l) (v :: vs)) : ∀ {l vs}, VRs cx g l vs → M l vs
  | [], _, h => by cases h; exact n
  | _ :: _, _, h => by cases h with | cons x y => exact c x y (VRs.ind n c y)
theorem VRs.length {cx : Cx} {g : Gh} {l vs} (h : VRs cx g l vs) : l.length = vs.length := h.ind (M := fun l vs => l.length = vs.length) rfl fun _ _ e => congrArg (· + 1) e
theorem VRs.get {cx : Cx} {g : Gh} {l vs} (h : VRs cx g l vs) : ∀ {i : Nat} {a}, l[i]? = some a → ∃ v, vs[i]? = some v ∧ VR cx g a v :=
  VRs.ind (M := fun l vs => ∀ (i : Nat) (a : AV), l[i]? = some a → ∃ v, vs[i]? = some v ∧ VR cx g a v) (fun _ _ e => by cases e) (by
    intro a v l vs x _ ih i b e
    cases i with
    | zero => cases e; exact ⟨_, rfl, x⟩
    | succ i => exact ih i b e) h _ _
theorem VRs.append {cx : Cx} {g : Gh} {l vs l' vs'} (x : VRs cx g l vs) (y : VRs cx g l' vs') : VRs cx g (l ++ l') (vs ++ vs') := x.ind (M := fun l vs => VRs cx g (l ++ l') (vs ++ vs')) y fun h _ ih => .cons h ih
noncomputable def VRv (cx : Cx) (g : Gh) : AV → Value → Prop
  | .d p, v => ∃ as, Reads g.Z v p as
  | .tup l, v => ∃ a vs n, v = .ref a ∧ g.Z.get? a = some { cls := .type "tuple", data := .seq vs n } ∧ VRs cx g l vs.toList
  | .lst l, v => ∃ a vs n, v = .ref a ∧ g.Z.get? a = some { cls := .type "list", data := .seq vs n } ∧ VRs cx g l vs.toList
  | .vec k items, v => ∃ a d C t iv as, v = .ref a ∧ nsIn cx.K mainGlobals "Vector" = some (some (.ref C)) ∧ g.Z.get? a = some (instObj C d) ∧ g.V d = some (.str k t, iv) ∧ Reads g.Z iv (.list items) as
  | .sym nm, v => ∃ a d C es n t t', v = .ref a ∧ nsIn cx.K mainGlobals "Symbol" = some (some (.ref C)) ∧ g.Z.get? a = some (instObj C d) ∧ g.Z.get? d = some (dictOf es n) ∧
      getL "kind" es = some (some (.str "symbol" t)) ∧ getL "name" es = some (some (.str nm t')) ∧ getL "attrs" es = some (some .none)
  | .call items tags, v => ∃ a d C es n t iv tv vs m as, v = .ref a ∧ nsIn cx.K mainGlobals "Call" = some (some (.ref C)) ∧ g.Z.get? a = some (instObj C d) ∧ g.Z.get? d = some (dictOf es n) ∧
      getL "kind" es = some (some (.str "language" t)) ∧ getL "items" es = some (some (.ref iv)) ∧ getL "tags" es = some (some tv) ∧ getL "attrs" es = some (some .none) ∧
      g.Z.get? iv = some { cls := .type "list", data := .seq vs m } ∧ VRs cx g items vs.toList ∧ Reads g.Z tv (.list tags) as
  | .fn n, v => nsIn cx.K mainGlobals n = some (some v)
  | .cv w, v => v = w
  | .lref a, v => v = .ref a
  | .dct ks l, v => ∃ a vs, v = .ref a ∧ (a == sysModules) = false ∧ g.Z.DictOf (PySem.strKind cx.prog cx.w) a (ks.zip vs) ∧ ks.length = vs.length ∧ VRs cx g l vs
  | .rng n, v => ∃ a t u w, v = .ref a ∧ IsRange g.Z a 0 n 1 t u w
  | .undef, _ => False
theorem VR.inv {cx : Cx} {g : Gh} {a v} (h : VR cx g a v) : VRv cx g a v := by
  cases h with
  | d h => exact ⟨_, h⟩
  | tup h1 h2 => exact ⟨_, _, _, rfl, h1, h2⟩
  | lst h1 h2 => exact ⟨_, _, _, rfl, h1, h2⟩
  | vec h0 h1 h2 h3 => exact ⟨_, _, _, _, _, _, rfl, h0, h1, h2, h3⟩
  | sym h0 h1 h2 h3 h4 h5 => exact ⟨_, _, _, _, _, _, _, rfl, h0, h1, h2, h3, h4, h5⟩
  | call h0 h1 h2 h3 h4 h5 h6 h7 h8 h9 => exact ⟨_, _, _, _, _, _, _, _, _, _, _, rfl, h0, h1, h2, h3, h4, h5, h6, h7, h8, h9⟩
  | fn h => exact h
  | cv => rfl
  | lref => rfl
  | dct h1 h2 h3 h4 => exact ⟨_, _, rfl, h1, h2, h3, h4⟩
  | rng h => exact ⟨_, _, _, _, rfl, h⟩
theorem fn_of {cx : Cx} {g : Gh} {n v} (h : VR cx g (.fn n) v) : nsIn cx.K mainGlobals n = some (some v) := h.inv
theorem VRs.snoc {cx : Cx} {g : Gh} {l vs a v} (x : VRs cx g l vs) (h : VR cx g a v) : VRs cx g (l ++ [a]) (vs ++ [v]) := x.append (.cons h .nil)
inductive VO (kv iv : Value) : Obj → Prop
  | mk (h1 h2 h3 h4 h5 : Int) (t1 t2 t3 t4 t5 : Tok) (b : Bool) (n : Nat) : VO kv iv (dictOf [⟨h1, .str "kind" t1, kv⟩, ⟨h2, .str "items" t2, iv⟩, ⟨h3, .str "attrs" t3, .none⟩, ⟨h4, .str "shared" t4, .bool b⟩, ⟨h5, .str "loose" t5, .bool false⟩] n)
inductive VD (h : Heap) (d : Addr) (kv iv : Value) : Prop
  | mk {o : Obj} (e : h.get? d = some o) (v : VO kv iv o) : VD h d kv iv
theorem VD.map {h h' : Heap} {d d' : Addr} {kv iv : Value} (x : VD h d kv iv) (k : ∀ o, h.get? d = some o → h'.get? d' = some o) : VD h' d' kv iv := by cases x with | mk e v => exact .mk (k _ e) v
theorem VD.ne {h : Heap} {d : Addr} {kv iv : Value} (x : VD h d kv iv) : ∃ o, h.get? d = some o := by cases x with | mk e v => exact ⟨_, e⟩
structure Inv (cx : Cx) (Pr : Addr → Option Obj) (σ : Sig) (g : Gh) (s : Shared) : Prop where
  zle : ∀ b o, g.Z.get? b = some o → s.heap.get? b = some o
  base : ∀ b o, cx.S0.heap.get? b = some o → g.Z.get? b = some o
  pr : ∀ b o, Pr b = some o → g.Z.get? b = none ∧ g.V b = none ∧ ∃ sl, ((∀ es n, o.data ≠ .dict es n) → sl = o.slots) ∧ s.heap.get? b = some { o with slots := sl }
  sg : ∀ e ∈ σ, g.Z.get? e.1 = none ∧ Pr e.1 = none ∧ g.V e.1 = none ∧ ∃ vs : Array Value, VRs cx g e.2 vs.toList ∧ s.heap.PlainList e.1 vs
  nd : (σ.map (·.1)).Nodup
  vd : ∀ d kv iv, g.V d = some (kv, iv) → g.Z.get? d = none ∧ VD s.heap d kv iv
  gens : s.gens = cx.S0.gens
  os : s.os = cx.S0.os
  dr : s.drawn = cx.S0.drawn
section
variable {cx : Cx} {Pr : Addr → Option Obj} {σ : Sig} {g : Gh} {s : Shared}
theorem get_none_of_size {h : Heap} {a : Addr} (hs : h.objs.size ≤ a) : h.get? a = none := by
  cases e : h.get? a with
  | none => rfl
  | some o => exact absurd (Heap.lt_size e) (Nat.not_lt.mpr hs)
theorem Inv.z_fresh (I : Inv cx Pr σ g s) {a : Addr} (h : s.heap.get? a = none) : g.Z.get? a = none := by
  cases e : g.Z.get? a with
  | none => rfl
  | some x => rw [I.zle _ _ e] at h; cases h
theorem Inv.p_fresh (I : Inv cx Pr σ g s) {a : Addr} (h : s.heap.get? a = none) : Pr a = none := by
  cases e : Pr a with
  | none => rfl
  | some x =>
    obtain ⟨_, _, sl, hf, q⟩ := I.pr _ _ e
    rw [h] at q; cases q
theorem Inv.v_fresh (I : Inv cx Pr σ g s) {a : Addr} (h : s.heap.get? a = none) : g.V a = none := by
  cases e : g.V a with
  | none => rfl
  | some x =>
    obtain ⟨_, q⟩ := (I.vd _ _ _ e).2.ne
    rw [h] at q; cases q
theorem Inv.s_fresh (I : Inv cx Pr σ g s) {a : Addr} (h : s.heap.get? a = none) : ∀ e ∈ σ, e.1 ≠ a := fun e he q => by
  obtain ⟨_, _, _, vs, _, o, z⟩ := I.sg e he
  rw [q, h] at z; cases z
theorem Inv.toks (I : Inv cx Pr σ g s) (t : Nat) : Inv cx Pr σ g { s with toks := t } := ⟨I.zle, I.base, I.pr, I.sg, I.nd, I.vd, I.gens, I.os, I.dr⟩
theorem Inv.keep (I : Inv cx Pr σ g s) {h' : Heap} (t : Nat) (k : ∀ b o, s.heap.get? b = some o → h'.get? b = some o) : Inv cx Pr σ g { s with heap := h', toks := t } :=
  { zle := fun b o e => k _ _ (I.zle b o e)
    base := I.base
    pr := fun b o e => let ⟨a, v, sl, hf, q⟩ := I.pr b o e; ⟨a, v, sl, hf, k _ _ q⟩
    sg := fun e he => let ⟨a, b, v, vs, r, n, q⟩ := I.sg e he; ⟨a, b, v, vs, r, n, k _ _ q⟩
    nd := I.nd
    vd := fun d kv iv e => ⟨(I.vd d kv iv e).1, (I.vd d kv iv e).2.map (k _)⟩
    gens := I.gens, os := I.os, dr := I.dr }
noncomputable def Gh.add (g : Gh) (h : Heap) (news : List Addr) : Gh := ⟨hideAll h ((List.range h.objs.size).filter fun b => (g.Z.get? b).isNone && !news.contains b), g.V⟩
theorem Gh.add_get (g : Gh) {h : Heap} {news : List Addr} {b : Addr} {o : Obj} (e : h.get? b = some o) (n : (g.Z.get? b).isSome = true ∨ b ∈ news) : (g.add h news).Z.get? b = some o := by
  refine hideAll_get _ e fun hm => ?_
  have q := (List.mem_filter.mp hm).2
  simp only [Bool.and_eq_true, Bool.not_eq_true', Option.isNone_iff_eq_none] at q
  rcases n with n | n
  · rw [q.1] at n; cases n
  · rw [List.contains_iff_mem.mpr n] at q; cases q.2
theorem Gh.of_add (g : Gh) {h : Heap} {news : List Addr} {b : Addr} {o : Obj} (e : (g.add h news).Z.get? b = some o) : h.get? b = some o ∧ ((g.Z.get? b).isSome = true ∨ b ∈ news) := by
  have h1 := of_hideAll _ e
  refine ⟨h1, ?_⟩
  cases hz : g.Z.get? b with
  | some x => exact .inl rfl
  | none =>
    by_cases hn : b ∈ news
    · exact .inr hn
    · exfalso
      have hm : b ∈ ((List.range h.objs.size).filter fun b => (g.Z.get? b).isNone && !news.contains b) := by
        refine List.mem_filter.mpr ⟨List.mem_range.mpr (Heap.lt_size h1), ?_⟩
        simp [hz, hn]
      have := hideAll_none _ (h := h) hm
      rw [show (hideAll h _).get? b = some o from e] at this; cases this
theorem Gh.add_none (g : Gh) {h : Heap} {news : List Addr} {b : Addr} (hz : g.Z.get? b = none) (hn : b ∉ news) : (g.add h news).Z.get? b = none := by
  cases e : (g.add h news).Z.get? b with
  | none => rfl
  | some o =>
    rcases (g.of_add e).2 with q | q
    · rw [hz] at q; cases q
    · exact absurd q hn
theorem Inv.add (I : Inv cx Pr σ g s) {h' : Heap} (t : Nat) (news : List Addr) (k : ∀ b o, s.heap.get? b = some o → h'.get? b = some o) (hn : ∀ b ∈ news, s.heap.get? b = none) :
    g.le (g.add h' news) ∧ Inv cx Pr σ (g.add h' news) { s with heap := h', toks := t } := by
  have L : g.le (g.add h' news) := ⟨fun b o e => g.add_get (k b o (I.zle b o e)) (.inl (by rw [e]; rfl)), fun _ _ e => e⟩
  have old : ∀ b o, s.heap.get? b = some o → b ∉ news := fun b o e q => by rw [hn b q] at e; cases e
  refine ⟨L, ?_⟩
  exact
  { zle := fun b o e => (g.of_add e).1
    base := fun b o e => L.z b o (I.base b o e)
    pr := fun b o e => let ⟨a, v, sl, hf, q⟩ := I.pr b o e; ⟨g.add_none a (old _ _ q), v, sl, hf, k _ _ q⟩
    sg := fun e he => let ⟨a, b, v, vs, r, n, q⟩ := I.sg e he; ⟨g.add_none a (old _ _ q), b, v, vs, r.mono L, n, k _ _ q⟩
    nd := I.nd
    vd := fun d kv iv e => ⟨g.add_none (I.vd d kv iv e).1 (old _ _ (I.vd d kv iv e).2.ne.choose_spec), (I.vd d kv iv e).2.map (k _)⟩
    gens := I.gens, os := I.os, dr := I.dr }
theorem Inv.push (I : Inv cx Pr σ g s) (o : Obj) (hf : o.isFreed = false) :
    g.le (g.add (s.heap.push o) [s.heap.objs.size]) ∧ Inv cx Pr σ (g.add (s.heap.push o) [s.heap.objs.size]) { s with heap := s.heap.push o } ∧ (g.add (s.heap.push o) [s.heap.objs.size]).Z.get? s.heap.objs.size = some o := by
  obtain ⟨L, I'⟩ := I.add (h' := s.heap.push o) s.toks [s.heap.objs.size] (fun b o' e => Heap.get?_push_of_some _ e) (fun b hb => by rw [List.mem_singleton.mp hb]; exact get_none_of_size (Nat.le_refl _))
  exact ⟨L, I', g.add_get (Heap.get?_push_size _ hf) (.inr List.mem_cons_self)⟩
theorem Inv.pushList (I : Inv cx Pr σ g s) {l : List AV} {vs : List Value} (r : VRs cx g l vs) :
    Inv cx Pr ((s.heap.objs.size, l) :: σ) g { s with heap := s.heap.push { cls := .type "list", data := .seq vs.toArray } } := by
  have k : ∀ b o', s.heap.get? b = some o' → (s.heap.push { cls := .type "list", data := .seq vs.toArray }).get? b = some o' := fun b o' e => Heap.get?_push_of_some _ e
  have fr : s.heap.get? s.heap.objs.size = none := get_none_of_size (Nat.le_refl _)
  have I' := I.keep s.toks k
  exact
  { I' with
    sg := fun e he => by
      rcases List.mem_cons.mp he with rfl | he
      · exact ⟨I.z_fresh fr, I.p_fresh fr, I.v_fresh fr, vs.toArray, by simpa using r, 0, Heap.get?_push_size _ rfl⟩
      · exact I'.sg e he
    nd := by
      rw [List.map_cons, List.nodup_cons]
      refine ⟨fun hm => ?_, I.nd⟩
      obtain ⟨e, he, q⟩ := List.mem_map.mp hm
      exact I.s_fresh fr e he q }
inductive SU (a : Addr) (l l' : List AV) : Sig → Sig → Prop
  | head {r} : SU a l l' ((a, l) :: r) ((a, l') :: r)
  | tail {e r r'} : SU a l l' r r' → SU a l l' (e :: r) (e :: r')
theorem SU.mem {a : Addr} {l l' : List AV} : ∀ {σ σ' : Sig}, SU a l l' σ σ' → (a, l) ∈ σ
  | _, _, .head => List.mem_cons_self
  | _, _, .tail h => List.mem_cons_of_mem _ h.mem
theorem SU.keys {a : Addr} {l l' : List AV} : ∀ {σ σ' : Sig}, SU a l l' σ σ' → σ'.map (·.1) = σ.map (·.1)
  | _, _, .head => rfl
  | _, _, .tail h => by simp [h.keys]
theorem SU.cases' {a : Addr} {l l' : List AV} : ∀ {σ σ' : Sig}, SU a l l' σ σ' → (σ.map (·.1)).Nodup → ∀ e ∈ σ', e = (a, l') ∨ (e ∈ σ ∧ e.1 ≠ a)
  | _, _, .head, nd, e, he => by
    rcases List.mem_cons.mp he with rfl | he
    · exact .inl rfl
    · refine .inr ⟨List.mem_cons_of_mem _ he, fun q => ?_⟩
      rw [List.map_cons, List.nodup_cons] at nd
      exact nd.1 (List.mem_map.mpr ⟨e, he, q⟩)
  | _, _, .tail h, nd, e, he => by
    rw [List.map_cons, List.nodup_cons] at nd
    rcases List.mem_cons.mp he with rfl | he
    · exact .inr ⟨List.mem_cons_self, fun q => nd.1 (q ▸ List.mem_map.mpr ⟨_, h.mem, rfl⟩)⟩
    · rcases h.cases' nd.2 e he with q | ⟨q, r⟩
      · exact .inl q
      · exact .inr ⟨List.mem_cons_of_mem _ q, r⟩
theorem some_ne {α : Type} {f : Addr → Option α} {a b : Addr} {x : α} (h : f a = none) (e : f b = some x) : b ≠ a := fun q => by rw [q, h] at e; cases e
theorem Inv.setList (I : Inv cx Pr σ g s) {a : Addr} {l l' : List AV} {σ' : Sig} (U : SU a l l' σ σ') {h' : Heap} {vs : Array Value} (t : Nat) (hs : Heap.SameBut a s.heap h') (hl : h'.PlainList a vs) (r : VRs cx g l' vs.toList) :
    Inv cx Pr σ' g { s with heap := h', toks := t } := by
  obtain ⟨az, ap, av, _⟩ := I.sg _ U.mem
  exact
  { zle := fun b o e => (hs.2 b (some_ne az e)).trans (I.zle b o e)
    base := I.base
    pr := fun b o e => let ⟨m, v, sl, hf, q⟩ := I.pr b o e; ⟨m, v, sl, hf, (hs.2 b (some_ne ap e)).trans q⟩
    sg := fun e he => by
      rcases U.cases' I.nd e he with rfl | ⟨q, n⟩
      · exact ⟨az, ap, av, vs, r, hl⟩
      · obtain ⟨m, b, v, vs, r, k, q⟩ := I.sg e q
        exact ⟨m, b, v, vs, r, k, (hs.2 _ n).trans q⟩
    nd := by rw [U.keys]; exact I.nd
    vd := fun d kv iv e => ⟨(I.vd d kv iv e).1, (I.vd d kv iv e).2.map fun _ => (hs.2 _ (some_ne av e)).trans⟩
    gens := I.gens, os := I.os, dr := I.dr }
noncomputable def setPr (Pr : Addr → Option Obj) (a : Addr) (o : Obj) : Addr → Option Obj := fun b => if b = a then some o else Pr b
theorem setPr_self {Pr : Addr → Option Obj} {a : Addr} {o : Obj} : setPr Pr a o a = some o := if_pos rfl
theorem setPr_ne {Pr : Addr → Option Obj} {a b : Addr} {o : Obj} (h : b ≠ a) : setPr Pr a o b = Pr b := if_neg h
theorem Inv.setObj (I : Inv cx Pr σ g s) {a : Addr} {o₀ o : Obj} (ha : Pr a = some o₀) {h' : Heap} (t : Nat) (hs : Heap.SameBut a s.heap h') (ho : h'.get? a = some o) :
    Inv cx (setPr Pr a o) σ g { s with heap := h', toks := t } := by
  obtain ⟨az, av, _⟩ := I.pr _ _ ha
  exact
  { zle := fun b o e => (hs.2 b (some_ne az e)).trans (I.zle b o e)
    base := I.base
    pr := fun b x e => by
      by_cases q : b = a
      · subst q
        rw [setPr_self] at e; cases e
        exact ⟨az, av, o.slots, fun _ => rfl, ho⟩
      · rw [setPr_ne q] at e
        obtain ⟨m, v, sl, hf, z⟩ := I.pr b x e
        exact ⟨m, v, sl, hf, (hs.2 b q).trans z⟩
    sg := fun e he => by
      obtain ⟨m, b, v, vs, r, x, q⟩ := I.sg e he
      have n : e.1 ≠ a := fun z => by rw [z] at b; exact absurd (b.symm.trans ha) (by simp)
      exact ⟨m, by rw [setPr_ne n]; exact b, v, vs, r, x, (hs.2 _ n).trans q⟩
    nd := I.nd
    vd := fun d kv iv e => ⟨(I.vd d kv iv e).1, (I.vd d kv iv e).2.map fun _ => (hs.2 _ (some_ne av e)).trans⟩
    gens := I.gens, os := I.os, dr := I.dr }
theorem Inv.tell (I : Inv cx Pr σ g s) {as : List Addr} {h' : Heap} (t : Nat) (k : ∀ b o, s.heap.get? b = some o → h'.get? b = some o) (hn : ∀ b ∈ as, s.heap.get? b = none) :
    Inv cx (fun b => if b ∈ as then h'.get? b else Pr b) σ g { s with heap := h', toks := t } := by
  have I' := I.keep t k
  exact
  { I' with
    pr := fun b x e => by
      by_cases q : b ∈ as
      · have e' : h'.get? b = some x := by simpa [q] using e
        exact ⟨I.z_fresh (hn b q), I.v_fresh (hn b q), x.slots, fun _ => rfl, e'⟩
      · have e' : Pr b = some x := by simpa [q] using e
        exact I'.pr b x e'
    sg := fun e he => by
      obtain ⟨m, b, v, vs, r, x, z⟩ := I'.sg e he
      obtain ⟨_, _, _, vs0, _, x0, z0⟩ := I.sg e he
      have : e.1 ∉ as := fun q => by rw [hn _ q] at z0; cases z0
      exact ⟨m, by simp [this, b], v, vs, r, x, z⟩ }
theorem Inv.sub {Pr' : Addr → Option Obj} (I : Inv cx Pr' σ g s) (h : ∀ b o, Pr b = some o → Pr' b = some o) : Inv cx Pr σ g s :=
  { I with
    pr := fun b o e => I.pr b o (h b o e)
    sg := fun e he => by
      obtain ⟨m, b, c⟩ := I.sg e he
      refine ⟨m, ?_, c⟩
      cases q : Pr e.1 with
      | none => rfl
      | some o => rw [h _ _ q] at b; cases b }
theorem Inv.newVec (I : Inv cx Pr σ g s) {d : Addr} {kv iv : Value} (hz : g.Z.get? d = none) (hp : Pr d = none) (hσ : ∀ e ∈ σ, e.1 ≠ d) (hV : g.V d = none) (hv : VD s.heap d kv iv) :
    g.le ⟨g.Z, fun b => if b = d then some (kv, iv) else g.V b⟩ ∧ Inv cx Pr σ ⟨g.Z, fun b => if b = d then some (kv, iv) else g.V b⟩ s := by
  have L : g.le ⟨g.Z, fun b => if b = d then some (kv, iv) else g.V b⟩ := ⟨fun _ _ e => e, fun b x e => by
    show (if b = d then some (kv, iv) else g.V b) = some x
    rw [if_neg (fun q => by rw [q, hV] at e; cases e)]; exact e⟩
  refine ⟨L, ?_⟩
  exact
  { I with
    pr := fun b x e => by
      obtain ⟨m, v, sl, hf, z⟩ := I.pr b x e
      exact ⟨m, by show (if b = d then some (kv, iv) else g.V b) = none; rw [if_neg (some_ne hp e)]; exact v, sl, hf, z⟩
    sg := fun e he => by
      obtain ⟨m, b, v, vs, r, x⟩ := I.sg e he
      exact ⟨m, b, by show (if e.1 = d then some (kv, iv) else g.V e.1) = none; rw [if_neg (hσ e he)]; exact v, vs, r.mono L, x⟩
    vd := fun b kv' iv' e => by
      by_cases q : b = d
      · subst q
        have : some (kv, iv) = some (kv', iv') := by simpa using e
        cases this
        exact ⟨hz, hv⟩
      · have : g.V b = some (kv', iv') := by simpa [q] using e
        exact I.vd _ _ _ this }
theorem Inv.setVec (I : Inv cx Pr σ g s) {d : Addr} {kv iv : Value} (hv : g.V d = some (kv, iv)) {h' : Heap} (t : Nat) (hs : Heap.SameBut d s.heap h') (hd : VD h' d kv iv) :
    Inv cx Pr σ g { s with heap := h', toks := t } := by
  obtain ⟨az, _⟩ := I.vd _ _ _ hv
  exact
  { zle := fun b o e => (hs.2 b (some_ne az e)).trans (I.zle b o e)
    base := I.base
    pr := fun b x e => by
      obtain ⟨m, v, sl, hf, z⟩ := I.pr b x e
      exact ⟨m, v, sl, hf, (hs.2 b (fun q => by rw [q, hv] at v; cases v)).trans z⟩
    sg := fun e he => by
      obtain ⟨m, b, v, vs, r, x, q⟩ := I.sg e he
      exact ⟨m, b, v, vs, r, x, (hs.2 _ (fun q => by rw [q, hv] at v; cases v)).trans q⟩
    nd := I.nd
    vd := fun b kv' iv' e => by
      by_cases q : b = d
      · subst q
        rw [hv] at e; cases e
        exact ⟨az, hd⟩
      · exact ⟨(I.vd _ _ _ e).1, (I.vd _ _ _ e).2.map fun _ => (hs.2 _ q).trans⟩
    gens := I.gens, os := I.os, dr := I.dr }
theorem Inv.drop {σ' : Sig} (I : Inv cx Pr σ g s) (h : ∀ e ∈ σ', e ∈ σ) (nd : (σ'.map (·.1)).Nodup) : Inv cx Pr σ' g s :=
  { I with sg := fun e he => I.sg e (h e he), nd := nd }
end
end Mine
end
section
open PySem PySem.W PySem.Spec PySem.SeqAt PySem.Calls PyProof.Rows
set_option Elab.async false
namespace Mine
noncomputable def NsO (o : Obj) (m : Str → Option Value) : Prop := ∃ es ep, o.data = .dict es ep ∧ StrKeys es ∧ ∀ x, nsFind es x = m x
inductive Slot (env : Env) (Pr : Addr → Option Obj) (m : Str → Option Value) (x : Str) (ov : Option Value) : Prop
  | loc : env.kindOf x = some .local → m x = ov → Slot env Pr m x ov
  | cell {c o} : env.kindOf x = some .cell → env.cells.lookup x = some c → Pr c = some o → o.data = .cell ov → Slot env Pr m x ov
  | free {c o} : env.kindOf x = some .free → (x == ("__classdict__" : Str)) = false → env.cells.lookup x = some c → Pr c = some o → o.data = .cell ov → Slot env Pr m x ov
noncomputable def VarOK (cx : Cx) (env : Env) (Pr : Addr → Option Obj) (g : Gh) (m : Str → Option Value) (e : Str × AV) : Prop :=
  (e.1 == ("__debug__" : Str)) = false ∧ ∃ ov, Slot env Pr m e.1 ov ∧ (e.2 = .undef ∨ ∃ v, ov = some v ∧ VR cx g e.2 v)
structure Glo where
  gl : Loc
  nm : List (Str × NameKind) := []
structure Fm (cx : Cx) (env : Env) (G : Glo) (ma : Loc) (Pr : Addr → Option Obj) (g : Gh) : Prop where
  kind : env.scope.kind = .function
  glob : env.globals = mainGlobals
  blt : env.builtins = builtinsNs
  loc : ∃ oL m, Pr env.locals = some oL ∧ NsO oL m ∧ ∀ e ∈ ma, VarOK cx env Pr g m e
  nd : (ma.map (·.1)).Nodup
  cinj : ∀ x y c, env.cells.lookup x = some c → env.cells.lookup y = some c → x = y
  cl : ∀ y c, env.cells.lookup y = some c → ∃ o ov, Pr c = some o ∧ o.data = .cell ov
  nm : ∀ y, env.kindOf y = G.nm.lookup y
  gl : ∀ e ∈ G.gl, env.kindOf e.1 = some .globalImplicit ∧ (e.1 == ("__debug__" : Str)) = false ∧ ∃ v, VR cx g e.2 v ∧ (cx.mg e.1 = some v ∨ (cx.mg e.1 = none ∧ cx.mb e.1 = some v))
theorem VarOK.mono {cx : Cx} {env : Env} {Pr : Addr → Option Obj} {g g' : Gh} {m : Str → Option Value} {e : Str × AV} (L : g.le g') (h : VarOK cx env Pr g m e) : VarOK cx env Pr g' m e :=
  let ⟨a, ov, b, c⟩ := h
  ⟨a, ov, b, c.imp id fun ⟨v, q, r⟩ => ⟨v, q, r.mono L⟩⟩
theorem Fm.mono {cx : Cx} {env : Env} {G : Glo} {ma : Loc} {Pr : Addr → Option Obj} {g g' : Gh} (L : g.le g') (F : Fm cx env G ma Pr g) : Fm cx env G ma Pr g' :=
  { F with
    loc := let ⟨oL, m, a, b, c⟩ := F.loc; ⟨oL, m, a, b, fun e he => (c e he).mono L⟩
    gl := fun e he => let ⟨a, b, v, c, d⟩ := F.gl e he; ⟨a, b, v, c.mono L, d⟩ }
theorem Fm.sub {cx : Cx} {env : Env} {G : Glo} {ma ma' : Loc} {Pr : Addr → Option Obj} {g : Gh} (F : Fm cx env G ma Pr g) (h : ∀ e ∈ ma', e ∈ ma) (nd : (ma'.map (·.1)).Nodup) : Fm cx env G ma' Pr g :=
  { F with
    loc := let ⟨oL, m, a, b, c⟩ := F.loc; ⟨oL, m, a, b, fun e he => c e (h e he)⟩
    nd := nd }
noncomputable def Room (r : Nat) (A : Around) : Prop := A.depth + r < recursionLimit ∧ A.units + 10 * r + 300 < cLine
theorem Room.le {r r' : Nat} {A : Around} (h : Room r A) (hr : r' ≤ r) : Room r' A := by unfold Room at *; omega
theorem Room.in1 {r : Nat} {A : Around} (h : Room (r + 1) A) : Room r A.in1 := by
  unfold Room at *; simp only [Around.in1_depth, Around.in1_units]; omega
theorem Room.deeper {r : Nat} {A : Around} {env : Env} (h : Room (r + 1) A) : Room r (A.deeper env) := by
  unfold Room at *; simp only [Around.deeper, Around.deeper_units]; omega
noncomputable def FrOK (A : Around) (Pr : Addr → Option Obj) : Prop :=
  A.handled = none ∧ ∃ l, A.frames = some l ∧ ∀ env ∈ l, env.scope.kind ≠ .module ∧ ∃ L o es n, env.frame = some L ∧ Pr L = some o ∧ o.data = .dict es n
noncomputable def PrStep (env : Env) (Pr Pr' : Addr → Option Obj) : Prop :=
  (∀ b, b ≠ env.locals → (∀ x, env.cells.lookup x ≠ some b) → Pr' b = Pr b) ∧
  (∀ b o es n, Pr b = some o → o.data = .dict es n → ∃ o' es' n', Pr' b = some o' ∧ o'.data = .dict es' n')
theorem PrStep.refl (env : Env) (Pr : Addr → Option Obj) : PrStep env Pr Pr := ⟨fun _ _ _ => rfl, fun _ o es n e d => ⟨o, es, n, e, d⟩⟩
theorem PrStep.trans {env : Env} {P1 P2 P3 : Addr → Option Obj} (x : PrStep env P1 P2) (y : PrStep env P2 P3) : PrStep env P1 P3 :=
  ⟨fun b h1 h2 => (y.1 b h1 h2).trans (x.1 b h1 h2), fun b o es n e d => let ⟨o', es', n', e', d'⟩ := x.2 b o es n e d; y.2 b o' es' n' e' d'⟩
theorem FrOK.step {A : Around} {env : Env} {Pr Pr' : Addr → Option Obj} (h : FrOK A Pr) (x : PrStep env Pr Pr') : FrOK A Pr' :=
  let ⟨z, l, a, b⟩ := h
  ⟨z, l, a, fun e he => let ⟨k, L, o, es, n, f, p, d⟩ := b e he; let ⟨o', es', n', p', d'⟩ := x.2 L o es n p d; ⟨k, L, o', es', n', f, p', d'⟩⟩
noncomputable def FrS (A : Around) (env : Env) (Pr : Addr → Option Obj) : Prop := (∃ l, A.frames = some (env :: l)) ∧ env.frame = some env.locals ∧ FrOK A Pr
theorem FrS.step {A : Around} {env : Env} {Pr Pr' : Addr → Option Obj} (h : FrS A env Pr) (x : PrStep env Pr Pr') : FrS A env Pr' := ⟨h.1, h.2.1, h.2.2.step x⟩
noncomputable def Exc (cx : Cx) (fr : Option (List Env)) (Pr : Addr → Option Obj) (σ : Sig) (g : Gh) (h : Heap) (e : Addr) : Prop :=
  ∃ C l, nsIn cx.K mainGlobals "Refusal" = some (some (.ref C)) ∧ fr = some l ∧ ∃ B : Heap, (∀ b o, B.get? b = some o → h.get? b = some o) ∧
    (∀ b o, h.get? b = some o → ((∃ x, g.Z.get? b = some x) ∨ (∃ x, g.V b = some x) ∨ b ∈ σ.map (·.1) ∨ ∃ x, Pr b = some x ∧ ∀ es n, x.data ≠ .dict es n) → B.get? b = some o) ∧ B.get? e = none ∧
    (∀ env ∈ l, ∀ L, env.frame = some L → B.get? L = none) ∧
    ((∃ oe vs x, h.get? e = some oe ∧ oe.cls = .ref C ∧ oe.data = .fields vs ∧ vs[1]? = some .none ∧ vs[0]? = some x) ∨ ∃ a0, Heap.FlyingW B l e (.ref C) a0 h)
section
variable (cx : Cx)
noncomputable def EvTo (r : Nat) (G : Glo) (KE : Sig → Prop) (e : Expr) (ma : Loc) (σ : Sig) (K : AV → Sig → Prop) : Prop :=
  ∀ A env Pr g s (Q : Value → Shared → Prop) (E : Value → Shared → Prop), Room r A → FrOK A Pr → Fm cx env G ma Pr g → Inv cx Pr σ g s →
    (∀ g' σ' s' av v, K av σ' → g.le g' → Inv cx Pr σ' g' s' → VR cx g' av v → Q v s') →
    (∀ g' σ' s' e, KE σ' → g.le g' → Inv cx Pr σ' g' s' → Exc cx A.frames Pr σ' g' s'.heap e → E (.ref e) s') →
    wpAny (model cx.prog cx.w) A (eval e env) Q E s
noncomputable def TsTo (r : Nat) (G : Glo) (KE : Sig → Prop) (e : Expr) (ma : Loc) (σ : Sig) (K : Bool → Sig → Prop) : Prop :=
  ∀ A env Pr g s (Q : Bool → Shared → Prop) (E : Value → Shared → Prop), Room r A → FrOK A Pr → Fm cx env G ma Pr g → Inv cx Pr σ g s →
    (∀ g' σ' s' b, K b σ' → g.le g' → Inv cx Pr σ' g' s' → Q b s') →
    (∀ g' σ' s' e, KE σ' → g.le g' → Inv cx Pr σ' g' s' → Exc cx A.frames Pr σ' g' s'.heap e → E (.ref e) s') →
    wpAny (model cx.prog cx.w) A (isTrue e env (eval e env)) Q E s
noncomputable def EsTo (r : Nat) (G : Glo) (KE : Sig → Prop) (es : List Expr) (ma : Loc) (σ : Sig) (K : List AV → Sig → Prop) : Prop :=
  ∀ pos A env Pr g s (Q : List Value → Shared → Prop) (E : Value → Shared → Prop), Room r A → FrOK A Pr → Fm cx env G ma Pr g → Inv cx Pr σ g s →
    (∀ g' σ' s' avs vs, K avs σ' → g.le g' → Inv cx Pr σ' g' s' → VRs cx g' avs vs → Q vs s') →
    (∀ g' σ' s' e, KE σ' → g.le g' → Inv cx Pr σ' g' s' → Exc cx A.frames Pr σ' g' s'.heap e → E (.ref e) s') →
    wpAny (model cx.prog cx.w) A (spliced (backTo pos (starEach es env))) Q E s
noncomputable def BinTo (r : Nat) (op : Operator) (a b : AV) (σ : Sig) (K : AV → Sig → Prop) : Prop :=
  ∀ A Pr g s x y (Q : Value → Shared → Prop) (E : Value → Shared → Prop), Room r A → Inv cx Pr σ g s → VR cx g a x → VR cx g b y →
    (∀ g' σ' s' av v, K av σ' → g.le g' → Inv cx Pr σ' g' s' → VR cx g' av v → Q v s') → wpAny (model cx.prog cx.w) A (binaryOp op x y) Q E s
noncomputable def CmpTo (r : Nat) (op : CmpOp) (a b : AV) (σ : Sig) (K : Bool → Prop) : Prop :=
  ∀ A Pr g s x y (Q : Value → Shared → Prop) (E : Value → Shared → Prop), Room r A → Inv cx Pr σ g s → VR cx g a x → VR cx g b y →
    (∀ b s', K b → Inv cx Pr σ g s' → Q (.bool b) s') → wpAny (model cx.prog cx.w) A (compareOp op x y) Q E s
noncomputable def TruTo (r : Nat) (a : AV) (σ : Sig) (K : Bool → Prop) : Prop :=
  ∀ A Pr g s x (Q : Bool → Shared → Prop) (E : Value → Shared → Prop), Room r A → Inv cx Pr σ g s → VR cx g a x →
    (∀ b s', K b → Inv cx Pr σ g s' → Q b s') → wpAny (model cx.prog cx.w) A (truthy x) Q E s
noncomputable def CallTo (r : Nat) (KE : Sig → Prop) (f : AV) (args : List AV) (σ : Sig) (K : AV → Sig → Prop) : Prop :=
  ∀ A Pr g s fv vs (Q : Value → Shared → Prop) (E : Value → Shared → Prop), Room r A → FrOK A Pr → Inv cx Pr σ g s → VR cx g f fv → VRs cx g args vs →
    (∀ g' σ' s' av v, K av σ' → g.le g' → Inv cx Pr σ' g' s' → VR cx g' av v → Q v s') →
    (∀ g' σ' s' e, KE σ' → g.le g' → Inv cx Pr σ' g' s' → Exc cx A.frames Pr σ' g' s'.heap e → E (.ref e) s') →
    wpAny (model cx.prog cx.w) A (call fv vs) Q E s
inductive Out where
  | next | brk | cont
  | ret (a : AV)
noncomputable def FlowR (g : Gh) : Out → Flow → Prop
  | .next, .next => True
  | .brk, .brk => True
  | .cont, .cont => True
  | .ret a, .ret v => VR cx g a v
  | _, _ => False
noncomputable def ExTo (r : Nat) (G : Glo) (KE : Sig → Prop) (st : Stmt) (ma : Loc) (σ : Sig) (K : Out → Loc → Sig → Prop) : Prop :=
  ∀ A env Pr g s (Q : Flow → Shared → Prop) (E : Value → Shared → Prop), Room r A → FrS A env Pr → Fm cx env G ma Pr g → Inv cx Pr σ g s →
    (∀ Pr' g' σ' s' o ma' f, K o ma' σ' → PrStep env Pr Pr' → g.le g' → Fm cx env G ma' Pr' g' → Inv cx Pr' σ' g' s' → FlowR cx g' o f → Q f s') →
    (∀ Pr' g' σ' s' e ma', KE σ' → PrStep env Pr Pr' → g.le g' → Fm cx env G ma' Pr' g' → Inv cx Pr' σ' g' s' → Exc cx A.frames Pr' σ' g' s'.heap e → E (.ref e) s') →
    wpAny (model cx.prog cx.w) A (exec st env) Q E s
noncomputable def XsTo (r : Nat) (G : Glo) (KE : Sig → Prop) (K : Out → Loc → Sig → Prop) (sts : List Stmt) (ma : Loc) (σ : Sig) : Prop :=
  ∀ A env Pr g s (Q : Flow → Shared → Prop) (E : Value → Shared → Prop), Room r A → FrS A env Pr → Fm cx env G ma Pr g → Inv cx Pr σ g s →
    (∀ Pr' g' σ' s' o ma' f, K o ma' σ' → PrStep env Pr Pr' → g.le g' → Fm cx env G ma' Pr' g' → Inv cx Pr' σ' g' s' → FlowR cx g' o f → Q f s') →
    (∀ Pr' g' σ' s' e ma', KE σ' → PrStep env Pr Pr' → g.le g' → Fm cx env G ma' Pr' g' → Inv cx Pr' σ' g' s' → Exc cx A.frames Pr' σ' g' s'.heap e → E (.ref e) s') →
    wpAny (model cx.prog cx.w) A (execs sts env) Q E s
noncomputable def StTo (x : Str) (av : AV) (ma : Loc) (K : Loc → Prop) : Prop :=
  ∀ A env G Pr σ g s v (Q : Unit → Shared → Prop) (E : Value → Shared → Prop), Fm cx env G ma Pr g → Inv cx Pr σ g s → VR cx g av v →
    (∀ Pr' s' ma', K ma' → PrStep env Pr Pr' → Fm cx env G ma' Pr' g → Inv cx Pr' σ g s' → Q () s') → wpAny (model cx.prog cx.w) A (storeName env x v) Q E s
end
noncomputable abbrev NoE : Sig → Prop := fun _ => False
noncomputable abbrev I (i : Int) : AV := .d (.int i)
noncomputable abbrev B (b : Bool) : AV := .d (.bool b)
noncomputable abbrev S (s : Str) : AV := .d (.str s)
noncomputable abbrev N : AV := .d .none
section
variable {cx : Cx} {r : Nat} {G : Glo} {KE : Sig → Prop} {Pr : Addr → Option Obj} {g : Gh} {s : Shared} {ma : Loc} {σ : Sig}
theorem vr_int {i : Int} {t : Tok} : VR cx g (I i) (.int i t) := .d (.int i t)
theorem vr_bool {b : Bool} : VR cx g (B b) (.bool b) := .d (.bool b)
theorem vr_str {x : Str} {t : Tok} : VR cx g (S x) (.str x t) := .d (.str x t)
theorem vr_none : VR cx g N .none := .d .none
theorem int_of {i : Int} {v : Value} (h : VR cx g (I i) v) : ∃ t, v = .int i t := let ⟨_, h⟩ := h.inv; (reads_int_inv h).imp fun _ e => e.1
theorem bool_of {b : Bool} {v : Value} (h : VR cx g (B b) v) : v = .bool b := let ⟨_, h⟩ := h.inv; (reads_bool_inv h).1
theorem str_of {x : Str} {v : Value} (h : VR cx g (S x) v) : ∃ t, v = .str x t := let ⟨_, h⟩ := h.inv; (reads_str_inv h).imp fun _ e => e.1
theorem none_of {v : Value} (h : VR cx g N v) : v = .none := let ⟨_, h⟩ := h.inv; (reads_none_inv h).1
theorem NsO.at {o : Obj} {m : Str → Option Value} {h : Heap} {a : Addr} {sl : Array (Option Value)} (n : NsO o m) (e : h.get? a = some { o with slots := sl }) : h.Ns a m :=
  let ⟨es, ep, d, k, f⟩ := n; ⟨_, es, ep, e, d, k, f⟩
theorem fr_of (F : Fm cx env G ma Pr g) (I : Inv cx Pr σ g s) : ∃ m, s.heap.Ns env.locals m ∧ ∀ e ∈ ma, VarOK cx env Pr g m e :=
  let ⟨_, m, a, b, c⟩ := F.loc
  let ⟨_, _, _, _, q⟩ := I.pr _ _ a
  ⟨m, b.at q, c⟩
theorem cell_of {c : Addr} {o : Obj} {ov : Option Value} (I : Inv cx Pr σ g s) (h : Pr c = some o) (d : o.data = .cell ov) : s.heap.IsCell c ov :=
  let ⟨_, _, _, _, q⟩ := I.pr _ _ h
  ⟨_, q, d⟩
inductive Lk (x' : Str) (a' : AV) : Loc → Prop
  | head {l} : Lk x' a' ((x', a') :: l)
  | tail {e l} : Lk x' a' l → Lk x' a' (e :: l)
theorem Lk.mem {x : Str} {a : AV} : ∀ {l}, Lk x a l → (x, a) ∈ l
  | _, .head => List.mem_cons_self
  | _, .tail h => List.mem_cons_of_mem _ h.mem
theorem load_slot {env : Env} {x : Str} {v : Value} {m : Str → Option Value} {A : Around} {Q : Value → Shared → Prop} {E : Value → Shared → Prop} {M : Model} (F : Fm cx env G ma Pr g) (I : Inv cx Pr σ g s)
    (hn : s.heap.Ns env.locals m) (h : Slot env Pr m x (some v)) (q : Q v s) : wpAny M A (loadName env x) Q E s := by
  cases h with
  | loc hk hm => exact wpAny_loadName_local F.kind hk hn hm q
  | cell hk hc hp hd => exact wpAny_loadName_cell F.kind hk hc (cell_of I hp hd) q
  | free hk hb hc hp hd => exact wpAny_loadName_free F.kind hk hc (cell_of I hp hd) q hb
theorem ev_local {x : Str} {pos : Pos} {a : AV} {K : AV → Sig → Prop} (h : Lk x a ma) (hu : a ≠ .undef) (k : K a σ) : EvTo cx r G KE (.Name x pos) ma σ K := by
  intro A env Pr g s Q E hr hf F I q _
  obtain ⟨m, hn, hv⟩ := fr_of F I
  obtain ⟨hd, ov, hs, hov⟩ := hv _ h.mem
  rcases hov with e | ⟨v, rfl, vr⟩
  · exact absurd e hu
  · exact wpAny_Name (load_slot F I hn hs (q g σ s a v k (.refl g) I vr)) hd
theorem global_load {env : Env} {x : Str} {a : AV} {A : Around} {Q : Value → Shared → Prop} {E : Value → Shared → Prop} {pos : Pos} {M : Model} (F : Fm cx env G ma Pr g) (I : Inv cx Pr σ g s) (h : (x, a) ∈ G.gl)
    (q : ∀ v, VR cx g a v → Q v s) : wpAny M A (eval (.Name x pos) env) Q E s := by
  obtain ⟨hk, hd, v, vr, hv⟩ := F.gl _ h
  have kb : ∀ b o, cx.S0.heap.get? b = some o → s.heap.get? b = some o := fun b o e => I.zle _ _ (I.base _ _ e)
  refine Name_function_global F.kind hk ?_ hd
  rcases hv with e | ⟨e1, e2⟩
  · exact loadGlobal_global (by rw [F.glob]; exact cx.T.g.keeps kb) e (q v vr)
  · exact loadGlobal_builtin (by rw [F.glob]; exact cx.T.g.keeps kb) e1 (by rw [F.blt]; exact cx.T.b.keeps kb) e2 (q v vr)
theorem ev_global {x : Str} {pos : Pos} {a : AV} {K : AV → Sig → Prop} (h : Lk x a G.gl) (k : K a σ) : EvTo cx r G KE (.Name x pos) ma σ K := by
  intro A env Pr g s Q E hr hf F I q _
  exact global_load F I h.mem fun v vr => q g σ s a v k (.refl g) I vr
theorem ev_cint {i : Int} {kk : Nat} {pos : Pos} {K : AV → Sig → Prop} (k : K (I i) σ) : EvTo cx r G KE (.Constant (.int i) kk pos) ma σ K := by
  intro A env Pr g s Q E hr hf F I q _
  exact wpAny_Constant_int (q g σ _ _ _ k (.refl g) (I.toks _) vr_int)
theorem ev_cstr {x : Str} {kk : Nat} {pos : Pos} {K : AV → Sig → Prop} (k : K (S x) σ) : EvTo cx r G KE (.Constant (.str x) kk pos) ma σ K := by
  intro A env Pr g s Q E hr hf F I q _
  exact wpAny_Constant_str (q g σ _ _ _ k (.refl g) (I.toks _) vr_str)
theorem ev_cbool {b : Bool} {kk : Nat} {pos : Pos} {K : AV → Sig → Prop} (k : K (B b) σ) : EvTo cx r G KE (.Constant (.bool b) kk pos) ma σ K := by
  intro A env Pr g s Q E hr hf F I q _
  exact wpAny_Constant_bool (q g σ _ _ _ k (.refl g) I vr_bool)
theorem ev_cnone {kk : Nat} {pos : Pos} {K : AV → Sig → Prop} (k : K N σ) : EvTo cx r G KE (.Constant .none kk pos) ma σ K := by
  intro A env Pr g s Q E hr hf F I q _
  exact wpAny_Constant_none (q g σ _ _ _ k (.refl g) I vr_none)
theorem ev_bin {l x : Expr} {op : Operator} {pos : Pos} {K : AV → Sig → Prop}
    (h : EvTo cx r G KE l ma σ (fun a σ1 => EvTo cx r G KE x ma σ1 (fun b σ2 => BinTo cx r op a b σ2 K))) : EvTo cx r G KE (.BinOp l op x pos) ma σ K := by
  intro A env Pr g s Q E hr hf F I q qe
  refine wpAny_BinOp (h A env Pr g s _ E hr hf F I (fun g1 σ1 s1 a v k1 L1 I1 v1 => ?_) qe)
  refine k1 A env Pr g1 s1 _ E hr hf (F.mono L1) I1 (fun g2 σ2 s2 b w k2 L2 I2 v2 => ?_) fun g' σ' s' e ke L' => qe g' σ' s' e ke (L1.trans L')
  exact k2 A Pr g2 s2 v w Q E hr I2 (v1.mono L2) v2 fun g' σ' s' av z k3 L3 => q g' σ' s' av z k3 (L1.trans (L2.trans L3))
theorem bin_add {x y : Int} {K : AV → Sig → Prop} (k : K (I (x + y)) σ) : BinTo cx r .Add (I x) (I y) σ K := by
  intro A Pr g s a b Q E hr I ha hb q
  obtain ⟨t, rfl⟩ := int_of ha
  obtain ⟨u, rfl⟩ := int_of hb
  exact PyProof.Rows.add_int (q g σ _ _ _ k (.refl g) (I.toks _) vr_int)
theorem bin_sub {x y : Int} {K : AV → Sig → Prop} (k : K (I (x - y)) σ) : BinTo cx r .Sub (I x) (I y) σ K := by
  intro A Pr g s a b Q E hr I ha hb q
  obtain ⟨t, rfl⟩ := int_of ha
  obtain ⟨u, rfl⟩ := int_of hb
  exact PyProof.Rows.sub_int (q g σ _ _ _ k (.refl g) (I.toks _) vr_int)
theorem bin_mod {x y : Int} {K : AV → Sig → Prop} (hy : y ≠ 0) (k : K (I (x.fmod y)) σ) : BinTo cx r .Mod (I x) (I y) σ K := by
  intro A Pr g s a b Q E hr I ha hb q
  obtain ⟨t, rfl⟩ := int_of ha
  obtain ⟨u, rfl⟩ := int_of hb
  exact PyProof.Rows.mod_int' hy (q g σ _ _ _ k (.refl g) (I.toks _) vr_int)
theorem bin_div {x y : Int} {K : AV → Sig → Prop} (hy : y ≠ 0) (hb : y.natAbs.log2 < 9000) (k : K (I (x.fdiv y)) σ) : BinTo cx r .FloorDiv (I x) (I y) σ K := by
  intro A Pr g s a b Q E hr I ha hb' q
  obtain ⟨t, rfl⟩ := int_of ha
  obtain ⟨u, rfl⟩ := int_of hb'
  exact PyProof.Rows.floordiv_int hy (q g σ _ _ _ k (.refl g) (I.toks _) vr_int) (.inl (PyProof.noPylong_of_log2 hb))
theorem bin_mul {x y : Int} {K : AV → Sig → Prop} (hm : IntMulOk x y) (k : K (I (x * y)) σ) : BinTo cx r .Mult (I x) (I y) σ K := by
  intro A Pr g s a b Q E hr I ha hb q
  obtain ⟨t, rfl⟩ := int_of ha
  obtain ⟨u, rfl⟩ := int_of hb
  exact PyProof.Rows.mul_int (q g σ _ _ _ k (.refl g) (I.toks _) vr_int) hm
theorem bin_pow {x y : Int} {K : AV → Sig → Prop} (h0 : 0 ≤ y) (hm : (Builtin.Int.intBits x : Int) * y ≤ 2 ^ 27) (k : K (I (x ^ y.toNat)) σ) : BinTo cx r .Pow (I x) (I y) σ K := by
  intro A Pr g s a b Q E hr I ha hb q
  obtain ⟨t, rfl⟩ := int_of ha
  obtain ⟨u, rfl⟩ := int_of hb
  exact PyProof.Rows.pow_int h0 hm (q g σ _ _ _ k (.refl g) (I.toks _) vr_int)
theorem ev_cmp {l x : Expr} {op : CmpOp} {pos : Pos} {K : AV → Sig → Prop} (hm : behindInMarks op x = false)
    (h : EvTo cx r G KE l ma σ (fun a σ1 => EvTo cx r G KE x ma σ1 (fun b σ2 => CmpTo cx r op a b σ2 (fun z => K (B z) σ2)))) : EvTo cx r G KE (.Compare l [op] [x] pos) ma σ K := by
  intro A env Pr g s Q E hr hf F I q qe
  refine wpAny_Compare1 (h A env Pr g s _ E hr hf F I (fun g1 σ1 s1 a v k1 L1 I1 v1 => ?_) qe) hm
  refine k1 A env Pr g1 s1 _ E hr hf (F.mono L1) I1 (fun g2 σ2 s2 b w k2 L2 I2 v2 => ?_) fun g' σ' s' e ke L' => qe g' σ' s' e ke (L1.trans L')
  exact k2 A Pr g2 s2 v w Q E hr I2 (v1.mono L2) v2 fun z s' k3 I3 => q g2 σ2 s' _ _ k3 (L1.trans L2) I3 vr_bool
theorem ts_cmp {l x : Expr} {op : CmpOp} {pos : Pos} {K : Bool → Sig → Prop} (hm : behindInMarks op x = false)
    (h : EvTo cx r G KE l ma σ (fun a σ1 => EvTo cx r G KE x ma σ1 (fun b σ2 => CmpTo cx r op a b σ2 (fun z => K z σ2)))) : TsTo cx r G KE (.Compare l [op] [x] pos) ma σ K := by
  intro A env Pr g s Q E hr hf F I q qe
  refine wpAny_isTrue_Compare1 (h A env Pr g s _ E hr hf F I (fun g1 σ1 s1 a v k1 L1 I1 v1 => ?_) qe) hm
  refine k1 A env Pr g1 s1 _ E hr hf (F.mono L1) I1 (fun g2 σ2 s2 b w k2 L2 I2 v2 => ?_) fun g' σ' s' e ke L' => qe g' σ' s' e ke (L1.trans L')
  exact k2 A Pr g2 s2 v w _ E hr I2 (v1.mono L2) v2 fun z s' k3 I3 => wpAny_truthy_bool (q g2 σ2 s' _ k3 (L1.trans L2) I3)
theorem cmp_eq_int {x y : Int} {K : Bool → Prop} (k : K (x == y)) : CmpTo cx r .Eq (I x) (I y) σ K := by
  intro A Pr g s a b Q E hr I ha hb q
  obtain ⟨t, rfl⟩ := int_of ha
  obtain ⟨u, rfl⟩ := int_of hb
  exact PySem.P.eq_int (q _ _ k I)
theorem cmp_ne_int {x y : Int} {K : Bool → Prop} (k : K (x != y)) : CmpTo cx r .NotEq (I x) (I y) σ K := by
  intro A Pr g s a b Q E hr I ha hb q
  obtain ⟨t, rfl⟩ := int_of ha
  obtain ⟨u, rfl⟩ := int_of hb
  exact PySem.P.ne_int (q _ _ k I)
theorem cmp_lt_int {x y : Int} {K : Bool → Prop} (k : K (decide (x < y))) : CmpTo cx r .Lt (I x) (I y) σ K := by
  intro A Pr g s a b Q E hr I ha hb q
  obtain ⟨t, rfl⟩ := int_of ha
  obtain ⟨u, rfl⟩ := int_of hb
  exact PySem.P.lt_int (q _ _ k I)
theorem cmp_le_int {x y : Int} {K : Bool → Prop} (k : K (decide (x ≤ y))) : CmpTo cx r .LtE (I x) (I y) σ K := by
  intro A Pr g s a b Q E hr I ha hb q
  obtain ⟨t, rfl⟩ := int_of ha
  obtain ⟨u, rfl⟩ := int_of hb
  exact PySem.P.le_int (q _ _ k I)
theorem cmp_gt_int {x y : Int} {K : Bool → Prop} (k : K (decide (y < x))) : CmpTo cx r .Gt (I x) (I y) σ K := by
  intro A Pr g s a b Q E hr I ha hb q
  obtain ⟨t, rfl⟩ := int_of ha
  obtain ⟨u, rfl⟩ := int_of hb
  exact PySem.P.gt_int (q _ _ k I)
theorem cmp_ge_int {x y : Int} {K : Bool → Prop} (k : K (decide (y ≤ x))) : CmpTo cx r .GtE (I x) (I y) σ K := by
  intro A Pr g s a b Q E hr I ha hb q
  obtain ⟨t, rfl⟩ := int_of ha
  obtain ⟨u, rfl⟩ := int_of hb
  exact PySem.P.ge_int (q _ _ k I)
theorem reads_now (I : Inv cx Pr σ g s) {p : PyData} {v : Value} (h : VR cx g (.d p) v) : ∃ as, Reads s.heap v p as := by
  obtain ⟨_, h⟩ := h.inv
  exact ⟨_, Reads.keeps I.zle h⟩
theorem Room.u64 {r : Nat} {A : Around} (h : Room r A) : A.units + 64 < cLine := by unfold Room at h; omega
theorem cmp_eq_data {p q' : PyData} {K : Bool → Prop} (h1 : shaped p = true) (h2 : shaped q' = true) (k : K (PyData.eqv p q')) : CmpTo cx r .Eq (.d p) (.d q') σ K := by
  intro A Pr g s a b Q E hr I ha hb q
  obtain ⟨as, ra⟩ := reads_now I ha
  obtain ⟨bs, rb⟩ := reads_now I hb
  exact eq_dataH ra rb h1 h2 hr.u64 (q _ _ k I)
theorem cmp_ne_data {p q' : PyData} {K : Bool → Prop} (h1 : shaped p = true) (h2 : shaped q' = true) (k : K (!PyData.eqv p q')) : CmpTo cx r .NotEq (.d p) (.d q') σ K := by
  intro A Pr g s a b Q E hr I ha hb q
  obtain ⟨as, ra⟩ := reads_now I ha
  obtain ⟨bs, rb⟩ := reads_now I hb
  exact ne_dataH ra rb h1 h2 hr.u64 (q _ _ k I)
noncomputable def isNone : AV → Bool
  | .d .none => true
  | .cv v => v == .none
  | _ => false
theorem isNone_eq {a : AV} {v : Value} (h : VR cx g a v) (hf : ∀ n, a ≠ .fn n) : (v == .none) = isNone a := by
  cases h with
  | d h => cases h <;> rfl
  | cv => rfl
  | fn _ => exact absurd rfl (hf _)
  | _ => rfl
theorem cmp_is_none {a : AV} {K : Bool → Prop} (hf : ∀ n, a ≠ .fn n) (k : K (isNone a)) : CmpTo cx r .Is a N σ K := by
  intro A Pr g s x b Q E hr I ha hb q
  obtain rfl := none_of hb
  refine is_none ?_
  rw [isNone_eq ha hf]; exact q _ _ k I
theorem cmp_isnot_none {a : AV} {K : Bool → Prop} (hf : ∀ n, a ≠ .fn n) (k : K (!isNone a)) : CmpTo cx r .IsNot a N σ K := by
  intro A Pr g s x b Q E hr I ha hb q
  obtain rfl := none_of hb
  refine isNot_none ?_
  rw [isNone_eq ha hf]; exact q _ _ k I
theorem ts_value {e : Expr} {K : Bool → Sig → Prop} (he : ∀ env whole, isTrue e env whole = (do let v ← whole; standAt e.pos; holding [v] (truthy v)))
    (h : EvTo cx r G KE e ma σ (fun a σ1 => TruTo cx r a σ1 (fun b => K b σ1))) : TsTo cx r G KE e ma σ K := by
  intro A env Pr g s Q E hr hf F I q qe
  refine wpAny_isTrue_value (h A env Pr g s _ E hr hf F I (fun g1 σ1 s1 a v k1 L1 I1 v1 => ?_) qe) (he env _)
  exact k1 A Pr g1 s1 v Q E hr I1 v1 fun b s' k2 I2 => q g1 σ1 s' b k2 L1 I2
theorem tru_bool {b : Bool} {K : Bool → Prop} (k : K b) : TruTo cx r (B b) σ K := by
  intro A Pr g s x Q E hr I ha q
  obtain rfl := bool_of ha
  exact wpAny_truthy_bool (q _ _ k I)
theorem tru_int {i : Int} {K : Bool → Prop} (k : K (i != 0)) : TruTo cx r (I i) σ K := by
  intro A Pr g s x Q E hr I ha q
  obtain ⟨t, rfl⟩ := int_of ha
  exact PySem.P.truthy_int (q _ _ k I)
theorem ts_not {x : Expr} {pos : Pos} {K : Bool → Sig → Prop} (h : TsTo cx r G KE x ma σ (fun b σ1 => K (!b) σ1)) : TsTo cx r G KE (.UnaryOp .Not x pos) ma σ K := by
  intro A env Pr g s Q E hr hf F I q qe
  exact wpAny_isTrue_Not (h A env Pr g s _ E hr hf F I (fun g1 σ1 s1 b k1 L1 I1 => q g1 σ1 s1 _ k1 L1 I1) qe)
theorem ev_not {x : Expr} {pos : Pos} {K : AV → Sig → Prop} (h : EvTo cx r G KE x ma σ (fun a σ1 => TruTo cx r a σ1 (fun b => K (B (!b)) σ1))) : EvTo cx r G KE (.UnaryOp .Not x pos) ma σ K := by
  intro A env Pr g s Q E hr hf F I q qe
  refine wpAny_UnaryOp (h A env Pr g s _ E hr hf F I (fun g1 σ1 s1 a v k1 L1 I1 v1 => not_value ?_) qe)
  exact k1 A Pr g1 s1 v _ E hr I1 v1 fun b s' k2 I2 => q g1 σ1 s' _ _ k2 L1 I2 vr_bool
theorem ev_neg {x : Expr} {pos : Pos} {K : AV → Sig → Prop} (h : EvTo cx r G KE x ma σ (fun a σ1 => ∃ i, a = I i ∧ K (I (-i)) σ1)) : EvTo cx r G KE (.UnaryOp .USub x pos) ma σ K := by
  intro A env Pr g s Q E hr hf F I q qe
  refine wpAny_UnaryOp (h A env Pr g s _ E hr hf F I (fun g1 σ1 s1 a v k1 L1 I1 v1 => ?_) qe)
  obtain ⟨i, rfl, k⟩ := k1
  obtain ⟨t, rfl⟩ := int_of v1
  exact PySem.P.neg_int (q g1 σ1 _ _ _ k L1 (I1.toks _) vr_int)
noncomputable def Ways (b : Bool) (P Q : Prop) : Prop := (b = true → P) ∧ (b = false → Q)
theorem Ways.ite {b : Bool} {P Q : Prop} (h : Ways b P Q) : if b = true then P else Q := by cases b with | true => exact h.1 rfl | false => exact h.2 rfl
theorem ways_t {b : Bool} {P Q : Prop} (e : b = true) (h : P) : Ways b P Q := ⟨fun _ => h, fun f => by rw [e] at f; cases f⟩
theorem ways_f {b : Bool} {P Q : Prop} (e : b = false) (h : Q) : Ways b P Q := ⟨fun f => (by rw [e] at f; cases f), fun _ => h⟩
theorem ev_ifexp {t b o : Expr} {pos : Pos} {K : AV → Sig → Prop}
    (h : TsTo cx r G KE t ma σ (fun z σ1 => Ways z (EvTo cx r G KE b ma σ1 K) (EvTo cx r G KE o ma σ1 K))) : EvTo cx r G KE (.IfExp t b o pos) ma σ K := by
  intro A env Pr g s Q E hr hf F I q qe
  refine wpAny_IfExp (h A env Pr g s _ E hr hf F I (fun g1 σ1 s1 z k1 L1 I1 => ?_) qe)
  cases z with
  | true => exact k1.1 rfl A env Pr g1 s1 Q E hr hf (F.mono L1) I1 (fun g' σ' s' av v k L => q g' σ' s' av v k (L1.trans L)) fun g' σ' s' e ke L => qe g' σ' s' e ke (L1.trans L)
  | false => exact k1.2 rfl A env Pr g1 s1 Q E hr hf (F.mono L1) I1 (fun g' σ' s' av v k L => q g' σ' s' av v k (L1.trans L)) fun g' σ' s' e ke L => qe g' σ' s' e ke (L1.trans L)
noncomputable def BsTo (cx : Cx) (r : Nat) (G : Glo) (KE : Sig → Prop) (K : Bool → Sig → Prop) (op : PySem.BoolOp) (es : List Expr) (ma : Loc) (σ : Sig) : Prop :=
  ∀ A env Pr g s (Q : Bool → Shared → Prop) (E : Value → Shared → Prop), Room r A → FrOK A Pr → Fm cx env G ma Pr g → Inv cx Pr σ g s →
    (∀ g' σ' s' b, K b σ' → g.le g' → Inv cx Pr σ' g' s' → Q b s') →
    (∀ g' σ' s' e, KE σ' → g.le g' → Inv cx Pr σ' g' s' → Exc cx A.frames Pr σ' g' s'.heap e → E (.ref e) s') →
    wpAny (model cx.prog cx.w) A (allTrue op es env) Q E s
theorem ts_bool {op : PySem.BoolOp} {es : List Expr} {pos : Pos} {K : Bool → Sig → Prop} (h : BsTo cx r G KE K op es ma σ) : TsTo cx r G KE (.BoolOp op es pos) ma σ K := by
  intro A env Pr g s Q E hr hf F I q qe
  exact wpAny_isTrue_BoolOp (h A env Pr g s Q E hr hf F I q qe)
theorem bs_and_nil {K : Bool → Sig → Prop} (k : K true σ) : BsTo cx r G KE K .And [] ma σ := by
  intro A env Pr g s Q E hr hf F I q qe
  exact wpAny_allTrue_And_nil (q g σ s _ k (.refl g) I)
theorem bs_or_nil {K : Bool → Sig → Prop} (k : K false σ) : BsTo cx r G KE K .Or [] ma σ := by
  intro A env Pr g s Q E hr hf F I q qe
  exact wpAny_allTrue_Or_nil (q g σ s _ k (.refl g) I)
theorem bs_and {x : Expr} {es : List Expr} {K : Bool → Sig → Prop} (h : TsTo cx r G KE x ma σ (fun z σ1 => Ways z (BsTo cx r G KE K .And es ma σ1) (K false σ1))) : BsTo cx r G KE K .And (x :: es) ma σ := by
  intro A env Pr g s Q E hr hf F I q qe
  refine wpAny_allTrue_And_cons (h A env Pr g s _ E hr hf F I (fun g1 σ1 s1 z k1 L1 I1 => ?_) qe)
  cases z with
  | true => exact k1.1 rfl A env Pr g1 s1 Q E hr hf (F.mono L1) I1 (fun g' σ' s' av k L => q g' σ' s' av k (L1.trans L)) fun g' σ' s' e ke L => qe g' σ' s' e ke (L1.trans L)
  | false => exact q g1 σ1 s1 _ (k1.2 rfl) L1 I1
theorem bs_or {x : Expr} {es : List Expr} {K : Bool → Sig → Prop} (h : TsTo cx r G KE x ma σ (fun z σ1 => Ways z (K true σ1) (BsTo cx r G KE K .Or es ma σ1))) : BsTo cx r G KE K .Or (x :: es) ma σ := by
  intro A env Pr g s Q E hr hf F I q qe
  refine wpAny_allTrue_Or_cons (h A env Pr g s _ E hr hf F I (fun g1 σ1 s1 z k1 L1 I1 => ?_) qe)
  cases z with
  | true => exact q g1 σ1 s1 _ (k1.1 rfl) L1 I1
  | false => exact k1.2 rfl A env Pr g1 s1 Q E hr hf (F.mono L1) I1 (fun g' σ' s' av k L => q g' σ' s' av k (L1.trans L)) fun g' σ' s' e ke L => qe g' σ' s' e ke (L1.trans L)
end
end Mine
end
section
open PySem PySem.W PySem.Spec PySem.SeqAt PySem.Calls PyProof.Rows
set_option Elab.async false
namespace Mine
inductive LU (x' : Str) (a' : AV) : Loc → Loc → Prop
  | head {old l} : LU x' a' ((x', old) :: l) ((x', a') :: l)
  | tail {e l l'} : LU x' a' l l' → LU x' a' (e :: l) (e :: l')
theorem LU.keys {x : Str} {a : AV} : ∀ {l l'}, LU x a l l' → l'.map (·.1) = l.map (·.1)
  | _, _, .head => rfl
  | _, _, .tail h => by simp [h.keys]
theorem LU.old {x : Str} {a : AV} : ∀ {l l'}, LU x a l l' → ∃ o, (x, o) ∈ l
  | _, _, .head => ⟨_, List.mem_cons_self⟩
  | _, _, .tail h => let ⟨o, m⟩ := h.old; ⟨o, List.mem_cons_of_mem _ m⟩
theorem LU.cases' {x : Str} {a : AV} : ∀ {l l' : Loc}, LU x a l l' → (l.map (·.1)).Nodup → ∀ e ∈ l', e = (x, a) ∨ (e ∈ l ∧ e.1 ≠ x)
  | _, _, .head, nd, e, he => by
    rcases List.mem_cons.mp he with rfl | he
    · exact .inl rfl
    · refine .inr ⟨List.mem_cons_of_mem _ he, fun q => ?_⟩
      rw [List.map_cons, List.nodup_cons] at nd
      exact nd.1 (List.mem_map.mpr ⟨e, he, q⟩)
  | _, _, .tail h, nd, e, he => by
    rw [List.map_cons, List.nodup_cons] at nd
    rcases List.mem_cons.mp he with rfl | he
    · obtain ⟨o, m⟩ := h.old
      exact .inr ⟨List.mem_cons_self, fun q => nd.1 (q ▸ List.mem_map.mpr ⟨_, m, rfl⟩)⟩
    · rcases h.cases' nd.2 e he with q | ⟨q, r⟩
      · exact .inl q
      · exact .inr ⟨List.mem_cons_of_mem _ q, r⟩
section
variable {cx : Cx} {r : Nat} {G : Glo} {KE : Sig → Prop} {Pr : Addr → Option Obj} {g : Gh} {s : Shared} {ma : Loc} {σ : Sig}
theorem ns_split {h : Heap} {L : Addr} {m : Str → Option Value} (hn : h.Ns L m) : ∃ o, h.get? L = some o ∧ NsO o m := let ⟨o, es, ep, e, d, k, f⟩ := hn; ⟨o, e, es, ep, d, k, f⟩
theorem NsO.nf {o : Obj} {m : Str → Option Value} (h : NsO o m) : ∀ vs, o.data ≠ .fields vs := fun vs q => by obtain ⟨es, ep, d, _⟩ := h; rw [d] at q; cases q
theorem storeName_free {M : Model} {A : Around} {E : Value → Shared → Prop} {env : Env} {name : Str} {c : Addr} {v₀ : Option Value} {v : Value} {Q : Unit → Shared → Prop} (hk : env.scope.kind = .function) (hl : env.kindOf name = some .free)
    (hc : env.cells.lookup name = some c) (hv : s.heap.IsCell c v₀)
    (h : ∀ h', h'.IsCell c (some v) → Heap.SameBut c s.heap h' → Q () { s with heap := h' }) : wpAny M A (storeName env name v) Q E s := by
  unfold storeName
  simp only [hl, hk]
  exact wpAny_bind (wpAny_cellOf hc (wpAny_cellSet hv h))
theorem st_name {x : Str} {a : AV} {ma' : Loc} {K : Loc → Prop} (U : LU x a ma ma') (k : K ma') : StTo cx x a ma K := by
  intro A env G Pr σ g s v Q E F I vr q
  obtain ⟨oL, m, hL, hO, hv⟩ := F.loc
  obtain ⟨_, _, slL, _, hsL⟩ := I.pr _ _ hL
  have hn : s.heap.Ns env.locals m := hO.at hsL
  obtain ⟨old, hold⟩ := U.old
  obtain ⟨hdbg, ov, hslot, _⟩ := hv _ hold
  have viaCell : ∀ {c : Addr} {o o' : Obj} {h' : Heap}, env.cells.lookup x = some c → Pr c = some o → o.data = .cell ov → h'.get? c = some o' → o'.data = .cell (some v) → Heap.SameBut c s.heap h' →
      (Slot env (setPr Pr c o') m x (some v)) → Q () { s with heap := h' } := by
    intro c o o' h' h2 h3 h4 ho' hd' hs hsl
    refine q (setPr Pr c o') _ ma' k ⟨fun b _ hb => setPr_ne (fun z => hb x (by rw [z]; exact h2)), fun b o1 es n e d => ?_⟩ ?_ (I.setObj (t := s.toks) h3 hs ho')
    · by_cases hb : b = c
      · subst hb; rw [h3] at e; cases e; rw [h4] at d; cases d
      · exact ⟨o1, es, n, by rw [setPr_ne hb]; exact e, d⟩
    · have hLc : env.locals ≠ c := fun z => by
        rw [← z, hL] at h3; cases h3
        obtain ⟨es, ep, d, _⟩ := hO
        rw [d] at h4; cases h4
      refine { F with loc := ⟨oL, m, by rw [setPr_ne hLc]; exact hL, hO, fun e he => ?_⟩, nd := by rw [U.keys]; exact F.nd, cl := fun y c2 hy => ?_ }
      case refine_2 =>
        by_cases q : c2 = c
        · subst q; exact ⟨o', some v, setPr_self, hd'⟩
        · rw [setPr_ne q]; exact F.cl y c2 hy
      rcases U.cases' F.nd e he with rfl | ⟨hm, hne⟩
      · exact ⟨hdbg, some v, hsl, .inr ⟨v, rfl, vr⟩⟩
      · obtain ⟨a1, ov', sl', r'⟩ := hv e hm
        refine ⟨a1, ov', ?_, r'⟩
        cases sl' with
        | loc h1 h2 => exact .loc h1 h2
        | @cell c' o1 g1 g2 g3 g4 => exact .cell g1 g2 (by rw [setPr_ne (fun z => hne (F.cinj _ _ _ g2 (by rw [z]; exact h2)))]; exact g3) g4
        | @free c' o1 g1 g0 g2 g3 g4 => exact .free g1 g0 g2 (by rw [setPr_ne (fun z => hne (F.cinj _ _ _ g2 (by rw [z]; exact h2)))]; exact g3) g4
  cases hslot with
  | loc hloc _ =>
    refine wpAny_storeName_local hloc hn (fun h' hn' hs => ?_) (by rw [F.kind]; rfl)
    obtain ⟨o', ho', hO'⟩ := ns_split hn'
    refine q (setPr Pr env.locals o') _ ma' k ⟨fun b hb _ => setPr_ne hb, fun b o es n e d => ?_⟩ ?_ (I.setObj hL _ hs ho')
    · by_cases hb : b = env.locals
      · subst hb
        obtain ⟨es', ep', d', _⟩ := hO'
        exact ⟨o', es', ep', setPr_self, d'⟩
      · exact ⟨o, es, n, by rw [setPr_ne hb]; exact e, d⟩
    · refine { F with loc := ⟨o', _, setPr_self, hO', fun e he => ?_⟩, nd := by rw [U.keys]; exact F.nd, cl := fun y c2 hy => ?_ }
      case refine_2 =>
        obtain ⟨o2, ov2, h2, d2⟩ := F.cl y c2 hy
        refine ⟨o2, ov2, ?_, d2⟩
        rw [setPr_ne fun z => ?_]
        · exact h2
        · rw [z, hL] at h2; cases h2
          obtain ⟨es, ep, d, _⟩ := hO
          rw [d] at d2; cases d2
      rcases U.cases' F.nd e he with rfl | ⟨hm, hne⟩
      · exact ⟨hdbg, some v, .loc hloc (if_pos rfl), .inr ⟨v, rfl, vr⟩⟩
      · obtain ⟨a1, ov', sl', r'⟩ := hv e hm
        refine ⟨a1, ov', ?_, r'⟩
        have apart : ∀ {c : Addr} {o : Obj}, Pr c = some o → o.data = .cell ov' → c ≠ env.locals := fun hp hd z => by
          rw [z, hL] at hp; cases hp
          obtain ⟨es, ep, d, _⟩ := hO
          rw [d] at hd; cases hd
        cases sl' with
        | loc h1 h2 => exact .loc h1 (by rw [if_neg hne]; exact h2)
        | cell h1 h2 h3 h4 => exact .cell h1 h2 (by rw [setPr_ne (apart h3 h4)]; exact h3) h4
        | free h1 h2 h3 h4 h5 => exact .free h1 h2 h3 (by rw [setPr_ne (apart h4 h5)]; exact h4) h5
  | @cell c o h1 h2 h3 h4 =>
    refine wpAny_storeName_cell F.kind h1 h2 (cell_of I h3 h4) fun h' hv' hs => ?_
    obtain ⟨o', ho', hd'⟩ := hv'
    exact viaCell h2 h3 h4 ho' hd' hs (.cell h1 h2 setPr_self hd')
  | @free c o h1 h0 h2 h3 h4 =>
    refine storeName_free F.kind h1 h2 (cell_of I h3 h4) fun h' hv' hs => ?_
    obtain ⟨o', ho', hd'⟩ := hv'
    exact viaCell h2 h3 h4 ho' hd' hs (.free h1 h0 h2 setPr_self hd')
noncomputable abbrev Nx (cx : Cx) (r : Nat) (G : Glo) (KE : Sig → Prop) (K : Out → Loc → Sig → Prop) (rest : List Stmt) (o : Out) (ma : Loc) (σ : Sig) : Prop := match o with | .next => XsTo cx r G KE K rest ma σ | o => K o ma σ
theorem xs_nil {K : Out → Loc → Sig → Prop} (k : K .next ma σ) : XsTo cx r G KE K [] ma σ := by
  intro A env Pr g s Q E hr hf F I q _
  exact wpAny_execs_nil (q Pr g σ s .next ma .next k (.refl _ _) (.refl g) F I trivial)
theorem xs_cons {st : Stmt} {rest : List Stmt} {K : Out → Loc → Sig → Prop}
    (h : ExTo cx r G KE st ma σ (Nx cx r G KE K rest)) : XsTo cx r G KE K (st :: rest) ma σ := by
  intro A env Pr g s Q E hr hf F I q qe
  refine wpAny_execs_cons (h A env Pr g s _ E hr hf F I (fun P1 g1 σ1 s1 o ma1 f k1 st1 L1 F1 I1 fr => ?_) qe)
  cases o with
  | next =>
    cases f <;> simp only [FlowR] at fr
    exact k1 A env P1 g1 s1 Q E hr (hf.step st1) F1 I1 (fun P2 g2 σ2 s2 o2 ma2 f2 k2 st2 L2 => q P2 g2 σ2 s2 o2 ma2 f2 k2 (st1.trans st2) (L1.trans L2))
      fun P2 g2 σ2 s2 e ma2 ke st2 L2 => qe P2 g2 σ2 s2 e ma2 ke (st1.trans st2) (L1.trans L2)
  | brk => cases f <;> simp only [FlowR] at fr; exact q P1 g1 σ1 s1 _ ma1 _ k1 st1 L1 F1 I1 trivial
  | cont => cases f <;> simp only [FlowR] at fr; exact q P1 g1 σ1 s1 _ ma1 _ k1 st1 L1 F1 I1 trivial
  | ret a => cases f <;> simp only [FlowR] at fr; exact q P1 g1 σ1 s1 _ ma1 _ k1 st1 L1 F1 I1 fr
theorem ex_ret {e : Expr} {pos : Pos} {K : Out → Loc → Sig → Prop} (h : EvTo cx r G KE e ma σ (fun a σ1 => K (.ret a) ma σ1)) : ExTo cx r G KE (.Return (some e) pos) ma σ K := by
  intro A env Pr g s Q E hr hf F I q qe
  refine wpAny_Return_some (h A env Pr g s _ E hr hf.2.2 F I (fun g1 σ1 s1 a v k1 L1 I1 v1 => q Pr g1 σ1 s1 _ ma _ k1 (.refl _ _) L1 (F.mono L1) I1 v1) fun g1 σ1 s1 e ke L1 I1 x => qe Pr g1 σ1 s1 e ma ke (.refl _ _) L1 (F.mono L1) I1 x)
theorem ex_if {t : Expr} {b o : List Stmt} {pos : Pos} {K : Out → Loc → Sig → Prop}
    (h : TsTo cx r G KE t ma σ (fun z σ1 => Ways z (XsTo cx r G KE K b ma σ1) (XsTo cx r G KE K o ma σ1))) : ExTo cx r G KE (.If t b o pos) ma σ K := by
  intro A env Pr g s Q E hr hf F I q qe
  refine wpAny_If (h A env Pr g s _ E hr hf.2.2 F I (fun g1 σ1 s1 z k1 L1 I1 => ?_) fun g1 σ1 s1 e ke L1 I1 x => qe Pr g1 σ1 s1 e ma ke (.refl _ _) L1 (F.mono L1) I1 x)
  cases z with
  | true => exact k1.1 rfl A env Pr g1 s1 Q E hr hf (F.mono L1) I1 (fun P2 g2 σ2 s2 o2 ma2 f2 k2 st2 L2 => q P2 g2 σ2 s2 o2 ma2 f2 k2 st2 (L1.trans L2)) fun P2 g2 σ2 s2 e ma2 ke st2 L2 => qe P2 g2 σ2 s2 e ma2 ke st2 (L1.trans L2)
  | false => exact k1.2 rfl A env Pr g1 s1 Q E hr hf (F.mono L1) I1 (fun P2 g2 σ2 s2 o2 ma2 f2 k2 st2 L2 => q P2 g2 σ2 s2 o2 ma2 f2 k2 st2 (L1.trans L2)) fun P2 g2 σ2 s2 e ma2 ke st2 L2 => qe P2 g2 σ2 s2 e ma2 ke st2 (L1.trans L2)
theorem ex_pass {pos : Pos} {K : Out → Loc → Sig → Prop} (k : K .next ma σ) : ExTo cx r G KE (.Pass pos) ma σ K := by
  intro A env Pr g s Q E hr hf F I q qe
  exact wpAny_Pass (q Pr g σ s .next ma .next k (.refl _ _) (.refl g) F I trivial)
theorem ex_break {pos : Pos} {K : Out → Loc → Sig → Prop} (k : K .brk ma σ) : ExTo cx r G KE (.Break pos) ma σ K := by
  intro A env Pr g s Q E hr hf F I q qe
  exact wpAny_Break (q Pr g σ s .brk ma .brk k (.refl _ _) (.refl g) F I trivial)
theorem ex_cont {pos : Pos} {K : Out → Loc → Sig → Prop} (k : K .cont ma σ) : ExTo cx r G KE (.Continue pos) ma σ K := by
  intro A env Pr g s Q E hr hf F I q qe
  exact wpAny_Continue (q Pr g σ s .cont ma .cont k (.refl _ _) (.refl g) F I trivial)
end
end Mine
end
section
open PySem PySem.W PySem.Spec PySem.SeqAt PySem.Calls PyProof.Rows
set_option Elab.async false
namespace Mine
noncomputable def unD : List AV → Option (List PyData)
  | [] => some []
  | .d p :: r => (unD r).map (p :: ·)
  | _ => none
theorem unD_eq : ∀ {l : List AV} {ps : List PyData}, unD l = some ps → l = ps.map .d
  | [], ps, h => by cases h; rfl
  | .d p :: r, ps, h => by
    simp only [unD, Option.map_eq_some_iff] at h
    obtain ⟨qs, h1, rfl⟩ := h
    rw [unD_eq h1]; rfl
  | .tup _ :: _, _, h => nomatch h
  | .lst _ :: _, _, h => nomatch h
  | .vec .. :: _, _, h => nomatch h
  | .sym _ :: _, _, h => nomatch h
  | .call .. :: _, _, h => nomatch h
  | .fn _ :: _, _, h => nomatch h
  | .cv _ :: _, _, h => nomatch h
  | .lref _ :: _, _, h => nomatch h
  | .rng _ :: _, _, h => nomatch h
  | .dct .. :: _, _, h => nomatch h
  | .undef :: _, _, h => nomatch h
section
variable {cx : Cx} {r : Nat} {G : Glo} {KE : Sig → Prop} {Pr : Addr → Option Obj} {g : Gh} {s : Shared} {ma : Loc} {σ : Sig}
theorem reads_all {ps : List PyData} : ∀ {vs : List Value}, VRs cx g (ps.map .d) vs → ∃ as, ReadsAll g.Z vs ps as := by
  induction ps with
  | nil => intro vs h; cases h; exact ⟨_, .nil⟩
  | cons p ps ih =>
    intro vs h
    cases h with
    | cons h t =>
      obtain ⟨as, ht⟩ := ih t
      obtain ⟨_, h⟩ := h.inv
      exact ⟨_, .cons h ht⟩
theorem vrs_of_reads : ∀ {ps : List PyData} {vs : List Value} {as : List Addr}, ReadsAll g.Z vs ps as → VRs cx g (ps.map .d) vs
  | [], _, _, h => by cases h; exact .nil
  | p :: ps, _, _, h => by
    cases h with
    | cons h t => exact .cons (.d h) (vrs_of_reads t)
inductive SeqAV (T : String) : AV → List AV → Prop
  | dt {ps} : T = "tuple" → SeqAV T (.d (.tuple ps)) (ps.map .d)
  | dl {ps} : T = "list" → SeqAV T (.d (.list ps)) (ps.map .d)
  | tup {l} : T = "tuple" → SeqAV T (.tup l) l
  | lst {l} : T = "list" → SeqAV T (.lst l) l
theorem seq_at {T : String} {a : AV} {l : List AV} {v : Value} (S : SeqAV T a l) (h : VR cx g a v) : ∃ b o vs n, v = .ref b ∧ g.Z.get? b = some o ∧ o.cls = .type T ∧ o.data = .seq vs n ∧ VRs cx g l vs.toList := by
  cases S with
  | dt e => subst e; cases h with | d h => cases h with | tuple h1 h2 h3 h4 => exact ⟨_, _, _, _, rfl, h1, h2, h3, vrs_of_reads h4⟩
  | dl e => subst e; cases h with | d h => cases h with | list h1 h2 h3 h4 => exact ⟨_, _, _, _, rfl, h1, h2, h3, vrs_of_reads h4⟩
  | tup e => subst e; obtain ⟨_, _, _, rfl, h1, h4⟩ := h.inv; exact ⟨_, _, _, _, rfl, h1, rfl, rfl, h4⟩
  | lst e => subst e; obtain ⟨_, _, _, rfl, h1, h4⟩ := h.inv; exact ⟨_, _, _, _, rfl, h1, rfl, rfl, h4⟩
theorem seq_tup {a : AV} {l : List AV} {v : Value} (I : Inv cx Pr σ g s) (S : SeqAV "tuple" a l) (h : VR cx g a v) : ∃ b vs, v = .ref b ∧ IsTup s.heap b vs ∧ VRs cx g l vs.toList :=
  let ⟨b, o, vs, n, e, z, c, d, r⟩ := seq_at S h; ⟨b, vs, e, ⟨o, I.zle _ _ z, c, n, d⟩, r⟩
theorem seq_lst {a : AV} {l : List AV} {v : Value} (I : Inv cx Pr σ g s) (S : SeqAV "list" a l) (h : VR cx g a v) : ∃ b vs, v = .ref b ∧ s.heap.IsList b vs ∧ VRs cx g l vs.toList :=
  let ⟨b, o, vs, n, e, z, c, d, r⟩ := seq_at S h; ⟨b, vs, e, ⟨o, I.zle _ _ z, c, n, d⟩, r⟩
theorem lref_lst {a : Addr} {l : List AV} {v : Value} (I : Inv cx Pr σ g s) (m : (a, l) ∈ σ) (h : VR cx g (.lref a) v) : ∃ vs, v = .ref a ∧ s.heap.IsList a vs ∧ VRs cx g l vs.toList := by
  obtain rfl := h.inv
  obtain ⟨_, _, _, vs, r, q⟩ := I.sg _ m
  exact ⟨vs, rfl, q.isList, r⟩
theorem VRs.size {l : List AV} {vs : Array Value} (h : VRs cx g l vs.toList) : vs.size = l.length := by rw [h.length]; simp
theorem VRs.at {l : List AV} {vs : Array Value} (h : VRs cx g l vs.toList) {i : Nat} {a : AV} (e : l[i]? = some a) : ∃ v, vs[i]? = some v ∧ VR cx g a v := by
  obtain ⟨v, h1, h2⟩ := h.get e
  exact ⟨v, by simpa using h1, h2⟩
theorem es_nil {K : List AV → Sig → Prop} (k : K [] σ) : EsTo cx r G KE [] ma σ K := by
  intro pos A env Pr g s Q E hr hf F I q _
  exact wpAny_items_nil (q g σ s [] [] k (.refl g) I .nil)
theorem es_cons {e : Expr} {es : List Expr} {K : List AV → Sig → Prop} (hs : ∀ env, starEach (e :: es) env = (false, eval e env) :: starEach es env)
    (h : EvTo cx r G KE e ma σ (fun a σ1 => EsTo cx r G KE es ma σ1 (fun as σ2 => K (a :: as) σ2))) : EsTo cx r G KE (e :: es) ma σ K := by
  intro pos A env Pr g s Q E hr hf F I q qe
  refine wpAny_items_cons (h A env Pr g s _ E hr hf F I (fun g1 σ1 s1 a v k1 L1 I1 v1 => ?_) qe) (hs env)
  refine k1 pos A env Pr g1 s1 _ E hr hf (F.mono L1) I1 (fun g2 σ2 s2 as vs k2 L2 I2 v2 => ?_) fun g' σ' s' e ke L' => qe g' σ' s' e ke (L1.trans L')
  exact q g2 σ2 s2 _ _ k2 (L1.trans L2) I2 (.cons (v1.mono L2) v2)
theorem le_line {n : Nat} (h : n ≤ 1000) : n ≤ sizeLine := by rw [sizeLine_eq]; omega
theorem ev_tuple_x {es : List Expr} {kk : Nat} {pos : Pos} {K : List AV → AV → Sig → Prop}
    (hv : ∀ {g' : Gh} {avs : List AV} {vs : List Value} {av : AV} {a : Addr} {σ1 : Sig}, K avs av σ1 → VRs cx g' avs vs → g'.Z.get? a = some { cls := .type "tuple", data := .seq vs.toArray } → VR cx g' av (.ref a)) {K' : AV → Sig → Prop} (hk : ∀ avs av σ1, K avs av σ1 → K' av σ1)
    (h : EsTo cx r G KE es ma σ (fun avs σ1 => avs.length ≤ 1000 ∧ ∃ av, K avs av σ1)) : EvTo cx r G KE (.Tuple es kk pos) ma σ K' := by
  intro A env Pr g s Q E hr hf F I q qe
  refine wpAny_Tuple (h pos A env Pr g s _ E hr hf F I (fun g1 σ1 s1 avs vs k1 L1 I1 v1 => ?_) qe)
  obtain ⟨hn, av, k⟩ := k1
  refine ⟨by rw [← v1.length]; exact le_line hn, ?_⟩
  obtain ⟨L2, I2, e⟩ := I1.push { cls := .type "tuple", data := .seq vs.toArray } rfl
  exact q _ σ1 _ av _ (hk _ _ _ k) (L1.trans L2) I2 (hv k (v1.mono L2) e)
theorem ev_tuple_d {es : List Expr} {kk : Nat} {pos : Pos} {K : AV → Sig → Prop} (h : EsTo cx r G KE es ma σ (fun avs σ1 => avs.length ≤ 1000 ∧ ∃ ps, unD avs = some ps ∧ K (.d (.tuple ps)) σ1)) : EvTo cx r G KE (.Tuple es kk pos) ma σ K := by
  refine ev_tuple_x (K := fun avs av σ1 => ∃ ps, av = .d (.tuple ps) ∧ unD avs = some ps ∧ K av σ1) (fun k v e => ?_) (fun _ _ _ ⟨_, _, _, k⟩ => k) ?_
  · obtain ⟨ps, rfl, hd, _⟩ := k
    rw [unD_eq hd] at v
    obtain ⟨as, ra⟩ := reads_all v
    exact .d (.tuple e rfl rfl (by simpa using ra))
  · intro pos A env Pr g s Q E hr hf F I q qe
    exact h pos A env Pr g s Q E hr hf F I (fun g' σ' s' avs vs k => let ⟨a, ps, b, c⟩ := k; q g' σ' s' avs vs ⟨a, _, ps, rfl, b, c⟩) qe
theorem ev_tuple {es : List Expr} {kk : Nat} {pos : Pos} {K : AV → Sig → Prop} (h : EsTo cx r G KE es ma σ (fun avs σ1 => avs.length ≤ 1000 ∧ K (.tup avs) σ1)) : EvTo cx r G KE (.Tuple es kk pos) ma σ K := by
  refine ev_tuple_x (K := fun avs av σ1 => av = .tup avs ∧ K av σ1) (fun k v e => ?_) (fun _ _ _ ⟨_, k⟩ => k) ?_
  · obtain ⟨rfl, _⟩ := k
    exact .tup e (by simpa using v)
  · intro pos A env Pr g s Q E hr hf F I q qe
    exact h pos A env Pr g s Q E hr hf F I (fun g' σ' s' avs vs k => let ⟨a, c⟩ := k; q g' σ' s' avs vs ⟨a, _, rfl, c⟩) qe
theorem ev_list_x {es : List Expr} {pos : Pos} {K : List AV → AV → Sig → Prop}
    (hv : ∀ {g' : Gh} {avs : List AV} {vs : List Value} {av : AV} {a : Addr} {σ1 : Sig}, K avs av σ1 → VRs cx g' avs vs → g'.Z.get? a = some { cls := .type "list", data := .seq vs.toArray } → VR cx g' av (.ref a)) {K' : AV → Sig → Prop} (hk : ∀ avs av σ1, K avs av σ1 → K' av σ1)
    (h : EsTo cx r G KE es ma σ (fun avs σ1 => avs.length ≤ 1000 ∧ ∃ av, K avs av σ1)) : EvTo cx r G KE (.List es pos) ma σ K' := by
  intro A env Pr g s Q E hr hf F I q qe
  refine wpAny_List (h pos A env Pr g s _ E hr hf F I (fun g1 σ1 s1 avs vs k1 L1 I1 v1 => ?_) qe)
  obtain ⟨hn, av, k⟩ := k1
  refine ⟨by rw [← v1.length]; exact le_line hn, ?_⟩
  obtain ⟨L2, I2, e⟩ := I1.push { cls := .type "list", data := .seq vs.toArray } rfl
  exact q _ σ1 _ av _ (hk _ _ _ k) (L1.trans L2) I2 (hv k (v1.mono L2) e)
theorem ev_list_d {es : List Expr} {pos : Pos} {K : AV → Sig → Prop} (h : EsTo cx r G KE es ma σ (fun avs σ1 => avs.length ≤ 1000 ∧ ∃ ps, unD avs = some ps ∧ K (.d (.list ps)) σ1)) : EvTo cx r G KE (.List es pos) ma σ K := by
  refine ev_list_x (K := fun avs av σ1 => ∃ ps, av = .d (.list ps) ∧ unD avs = some ps ∧ K av σ1) (fun k v e => ?_) (fun _ _ _ ⟨_, _, _, k⟩ => k) ?_
  · obtain ⟨ps, rfl, hd, _⟩ := k
    rw [unD_eq hd] at v
    obtain ⟨as, ra⟩ := reads_all v
    exact .d (.list e rfl rfl (by simpa using ra))
  · intro pos A env Pr g s Q E hr hf F I q qe
    exact h pos A env Pr g s Q E hr hf F I (fun g' σ' s' avs vs k => let ⟨a, ps, b, c⟩ := k; q g' σ' s' avs vs ⟨a, _, ps, rfl, b, c⟩) qe
theorem ev_list_f {es : List Expr} {pos : Pos} {K : AV → Sig → Prop} (h : EsTo cx r G KE es ma σ (fun avs σ1 => avs.length ≤ 1000 ∧ K (.lst avs) σ1)) : EvTo cx r G KE (.List es pos) ma σ K := by
  refine ev_list_x (K := fun avs av σ1 => av = .lst avs ∧ K av σ1) (fun k v e => ?_) (fun _ _ _ ⟨_, k⟩ => k) ?_
  · obtain ⟨rfl, _⟩ := k
    exact .lst e (by simpa using v)
  · intro pos A env Pr g s Q E hr hf F I q qe
    exact h pos A env Pr g s Q E hr hf F I (fun g' σ' s' avs vs k => let ⟨a, c⟩ := k; q g' σ' s' avs vs ⟨a, _, rfl, c⟩) qe
theorem ev_list_m {es : List Expr} {pos : Pos} {K : AV → Sig → Prop} (h : EsTo cx r G KE es ma σ (fun avs σ1 => avs.length ≤ 1000 ∧ ∀ a, K (.lref a) ((a, avs) :: σ1))) : EvTo cx r G KE (.List es pos) ma σ K := by
  intro A env Pr g s Q E hr hf F I q qe
  refine wpAny_List (h pos A env Pr g s _ E hr hf F I (fun g1 σ1 s1 avs vs k1 L1 I1 v1 => ?_) qe)
  refine ⟨by rw [← v1.length]; exact le_line k1.1, ?_⟩
  exact q g1 _ _ _ _ (k1.2 _) L1 (I1.pushList v1) .lref
noncomputable def ItemTo (cx : Cx) (r : Nat) (a b : AV) (σ : Sig) (K : AV → Sig → Prop) : Prop :=
  ∀ A Pr g s x y (Q : Value → Shared → Prop) (E : Value → Shared → Prop), Room r A → Inv cx Pr σ g s → VR cx g a x → VR cx g b y →
    (∀ g' σ' s' av v, K av σ' → g.le g' → Inv cx Pr σ' g' s' → VR cx g' av v → Q v s') →
    ∃ T id, s.TypeIs x T ∧ typeLookup (.type T) "__getitem__" = pure (some (.builtin id)) ∧ wpAny (model cx.prog cx.w) A (getItem x y) Q E s
theorem ev_sub {v sl : Expr} {pos : Pos} {K : AV → Sig → Prop} (hs : ∀ o i, ∃ ops, subscripted sl false o i = operate ops (getItem o i))
    (h : EvTo cx r G KE v ma σ (fun a σ1 => EvTo cx r G KE sl ma σ1 (fun b σ2 => ItemTo cx r a b σ2 K))) : EvTo cx r G KE (.Subscript v sl pos) ma σ K := by
  intro A env Pr g s Q E hr hf F I q qe
  refine Subscript_ (h A env Pr g s _ E hr hf F I (fun g1 σ1 s1 a v k1 L1 I1 v1 => ?_) qe)
  refine k1 A env Pr g1 s1 _ E hr hf (F.mono L1) I1 (fun g2 σ2 s2 b w k2 L2 I2 v2 => ?_) fun g' σ' s' e ke L' => qe g' σ' s' e ke (L1.trans L')
  obtain ⟨T, id, h1, h2, h3⟩ := k2 A Pr g2 s2 v w Q E hr I2 (v1.mono L2) v2 fun g' σ' s' av z k3 L3 => q g' σ' s' av z k3 (L1.trans (L2.trans L3))
  obtain ⟨ops, e⟩ := hs v w
  exact tail_any h1 h2 h3 e
theorem seqIx {k : Int} {n : Nat} (h0 : 0 ≤ k) (h : k.toNat < n) : seqIndex? k n = some k.toNat := by
  have e : k < n := by rw [← Int.toNat_of_nonneg h0]; exact Int.ofNat_lt.mpr h
  show (if (decide (0 ≤ (if k < 0 then k + n else k)) && decide ((if k < 0 then k + n else k) < n)) = true then some (if k < 0 then k + n else k).toNat else none) = _
  rw [if_neg (Int.not_lt.mpr h0), decide_eq_true h0, decide_eq_true e]; rfl
theorem item_of {T : String} {a x : AV} {l : List AV} {k : Int} {K : AV → Sig → Prop} (S : SeqAV T a l) (hT : T = "tuple" ∨ T = "list") (h0 : 0 ≤ k) (hk : k < 2 ^ 63) (hx : l[k.toNat]? = some x) (kk : K x σ) : ItemTo cx r a (I k) σ K := by
  intro A Pr g s v y Q E hr I va vb q
  obtain ⟨t, rfl⟩ := int_of vb
  rcases hT with rfl | rfl
  · obtain ⟨b, vs, rfl, ht, rs⟩ := seq_tup I S va
    obtain ⟨w, hw, vw⟩ := rs.at hx
    have hlt : k.toNat < vs.size := (Array.getElem?_eq_some_iff.mp hw).1
    refine ⟨"tuple", _, ht.typeIs, slot_tuple_getitem.lookup, getItem_tuple (j := k.toNat) ht (Int.le_trans (by decide) h0) hk ?_ hw (q g σ s x w kk (.refl g) I vw)⟩
    exact seqIx h0 hlt
  · obtain ⟨b, vs, rfl, ht, rs⟩ := seq_lst I S va
    obtain ⟨w, hw, vw⟩ := rs.at hx
    exact ⟨"list", _, ht.typeIs, slot_list_getitem.lookup, wpAny_getItem_list ht h0 hk hw (q g σ s x w kk (.refl g) I vw)⟩
theorem item_lref {a : Addr} {x : AV} {l : List AV} {k : Int} {K : AV → Sig → Prop} (m : (a, l) ∈ σ) (h0 : 0 ≤ k) (hk : k < 2 ^ 63) (hx : l[k.toNat]? = some x) (kk : K x σ) : ItemTo cx r (.lref a) (I k) σ K := by
  intro A Pr g s v y Q E hr I va vb q
  obtain ⟨t, rfl⟩ := int_of vb
  obtain ⟨vs, rfl, ht, rs⟩ := lref_lst I m va
  obtain ⟨w, hw, vw⟩ := rs.at hx
  exact ⟨"list", _, ht.typeIs, slot_list_getitem.lookup, wpAny_getItem_list ht h0 hk hw (q g σ s x w kk (.refl g) I vw)⟩
inductive PartIs : Option Expr → Option Int → Prop
  | none : PartIs none none
  | int {k kk p} : PartIs (some (.Constant (.int k) kk p)) (some k)
theorem part_run {M : Model} {A : Around} {E : Value → Shared → Prop} {env : Env} {e : Option Expr} {lo : Option Int} {Q : Value → Shared → Prop} (h : PartIs e lo) (q : ∀ v t, IsPart v lo → Q v { s with toks := t }) : wpAny M A (evalPart e env) Q E s := by
  cases h with
  | none => exact wpAny_pure (q _ s.toks .none)
  | @int k kk p => exact wpAny_Constant_int (k := kk) (pos := p) (q _ _ (.int _ _))
theorem ev_slice {v : Expr} {lo hi : Option Expr} {l u : Option Int} {p pos : Pos} {K : AV → Sig → Prop} (hl : PartIs lo l) (hu : PartIs hi u)
    (h : EvTo cx r G KE v ma σ (fun a σ1 => ∃ b, (∀ g' v', VR cx g' a v' → ∃ c vs, v' = .ref c ∧ (∃ o n, g'.Z.get? c = some o ∧ o.cls = .type "list" ∧ o.data = .seq vs n) ∧ vs.size ≤ sizeLine ∧
      ∀ g2 c2, g'.le g2 → g2.Z.get? c2 = some { cls := .type "list", data := .seq (slicePick vs l u none) } → VR cx g2 b (.ref c2)) ∧ K b σ1)) : EvTo cx r G KE (.Subscript v (.Slice lo hi none p) pos) ma σ K := by
  intro A env Pr g s Q E hr hf F I q qe
  refine Subscript_ (h A env Pr g s _ E hr hf F I (fun g1 σ1 s1 a v k1 L1 I1 v1 => ?_) qe)
  obtain ⟨b, hb, k⟩ := k1
  obtain ⟨c, vs, rfl, ⟨o, n, hz, hc, hd⟩, hsz, hfin⟩ := hb g1 _ v1
  refine wpAny_Slice (part_run hl fun vl t1 pl => part_run hu fun vu t2 pu => ?_)
  rw [evalPart_none]
  refine wpAny_pure ?_
  have I2 := I1.toks t2
  obtain ⟨L3, I3, e3⟩ := I2.push { cls := .type "slice", data := .fields #[vl, vu, .none] } rfl
  have hl' : Heap.IsList (s1.heap.push { cls := .type "slice", data := .fields #[vl, vu, .none] }) c vs := ⟨o, I3.zle _ _ (L3.z _ _ hz), hc, n, hd⟩
  obtain ⟨L4, I4, e4⟩ := I3.push { cls := .type "list", data := .seq (slicePick vs l u none) } rfl
  refine tail_any (T := "list") hl'.typeIs list_getitem_lookup (wpAny_getItem_list_slice hl' (Heap.IsSliceOf.new ..) pl pu .none (by simp) ?_ hsz) (ops := [_, _]) rfl
  exact q _ σ1 _ b _ k (L1.trans (L3.trans L4)) I4 (hfin _ _ (L3.trans L4) e4)
noncomputable def AttrOK (cx : Cx) (cls name : Str) : Prop := ∀ C, nsIn cx.K mainGlobals cls = some (some (.ref C)) → plainGet cx.K C name = true ∧ hasDictIn cx.K C = true ∧ ∃ attr, findIn cx.K (.ref C) name = some attr ∧ noGet cx.K attr = true
noncomputable def AttrTo (cx : Cx) (r : Nat) (a : AV) (name : Str) (σ : Sig) (K : AV → Sig → Prop) : Prop :=
  ∀ A Pr g s x (Q : Value → Shared → Prop) (E : Value → Shared → Prop), Room r A → Inv cx Pr σ g s → VR cx g a x →
    (∀ s' av v, K av σ → Inv cx Pr σ g s' → VR cx g av v → Q v s') → wpAny (model cx.prog cx.w) A (getAttr x name true) Q E s
theorem ev_attr {v : Expr} {name : Str} {pos : Pos} {K : AV → Sig → Prop} (hb : ∀ env whole, attributeBase v name env whole = whole)
    (h : EvTo cx r G KE v ma σ (fun a σ1 => AttrTo cx r a name σ1 K)) : EvTo cx r G KE (.Attribute v name pos) ma σ K := by
  intro A env Pr g s Q E hr hf F I q qe
  rw [arm_eval_Attribute, hb]
  refine wpAny_bind (wpAny_mono (h A env Pr g s (fun o s1 => wpAny (model cx.prog cx.w) A (getAttr o name true) Q E s1) E hr hf F I (fun g1 σ1 s1 a v k1 L1 I1 v1 => ?_) qe) (fun o s1 h1 => ?_) fun _ _ x => x)
  · exact k1 A Pr g1 s1 v Q E hr I1 v1 fun s' av w k2 I2 v2 => q g1 σ1 s' av w k2 L1 I2 v2
  · exact wpAny_bind (wpAny_standAt (wpAny_bind (wpAny_holding (wpAny_mono h1 (fun r s3 h3 => wpAny_bind (wpAny_letTemporaryGo (wpAny_pure h3))) fun _ _ x => x))))
theorem kin (I : Inv cx Pr σ g s) : cx.K.In s.heap := fun a o e => I.zle _ _ (I.base _ _ (cx.X a o e))
theorem attr_run {A : Around} {E : Value → Shared → Prop} {cls name : Str} {x d C : Addr} {es : List DictEntry} {n : Nat} {v : Value} {Q : Value → Shared → Prop} (I : Inv cx Pr σ g s) (hA : AttrOK cx cls name) (hC : nsIn cx.K mainGlobals cls = some (some (.ref C)))
    (hx : s.heap.get? x = some (instObj C d)) (hd : s.heap.get? d = some (dictOf es n)) (hl : getL name es = some (some v)) (hh : handedIn v = true) (q : Q v { s with toks := s.toks + 1 }) :
    wpAny (model cx.prog cx.w) A (getAttr (.ref x) name true) Q E s := by
  obtain ⟨h1, h2, attr, h3, h4⟩ := hA C hC
  exact get_value (kin I) (⟨hx, rfl, rfl, hd⟩ : W.InstAt s.heap x (instObj C d) C (some (dictOf es n))) (plainGet_of h1).1 (findObj_own h2 h3 h4 hl) hh q
theorem getL_vd {h1 h2 h3 h4 h5 : Int} {t1 t2 t3 t4 t5 : Tok} {b : Bool} {kv iv : Value} {name : Str} {v : Value}
    (h : (name = "kind" ∧ v = kv) ∨ (name = "items" ∧ v = iv) ∨ (name = "attrs" ∧ v = .none)) :
    getL name [⟨h1, .str "kind" t1, kv⟩, ⟨h2, .str "items" t2, iv⟩, ⟨h3, .str "attrs" t3, .none⟩, ⟨h4, .str "shared" t4, .bool b⟩, ⟨h5, .str "loose" t5, .bool false⟩] = some (some v) := by
  rcases h with ⟨rfl, rfl⟩ | ⟨rfl, rfl⟩ | ⟨rfl, rfl⟩ <;> rfl
theorem handed_reads {h : Heap} {v : Value} {p : PyData} {as : List Addr} (x : Reads h v p as) : handedIn v = true := by cases x <;> rfl
theorem attr_vec_kind {k : Str} {items : List PyData} {K : AV → Sig → Prop} (hA : AttrOK cx "Vector" "kind") (kk : K (S k) σ) : AttrTo cx r (.vec k items) "kind" σ K := by
  intro A Pr g s x Q E hr I va q
  obtain ⟨_, _, _, _, _, _, rfl, hC, hx, hv, hi⟩ := va.inv
  · obtain ⟨_, hd, ⟨h1, h2, h3, h4, h5, t1, t2, t3, t4, t5, b, n⟩⟩ := I.vd _ _ _ hv
    exact attr_run I hA hC (I.zle _ _ hx) hd (getL_vd (.inl ⟨rfl, rfl⟩)) rfl (q _ _ _ kk (I.toks _) vr_str)
theorem attr_vec_items {k : Str} {items : List PyData} {K : AV → Sig → Prop} (hA : AttrOK cx "Vector" "items") (kk : K (.d (.list items)) σ) : AttrTo cx r (.vec k items) "items" σ K := by
  intro A Pr g s x Q E hr I va q
  obtain ⟨_, _, _, _, _, _, rfl, hC, hx, hv, hi⟩ := va.inv
  · obtain ⟨_, hd, ⟨h1, h2, h3, h4, h5, t1, t2, t3, t4, t5, b, n⟩⟩ := I.vd _ _ _ hv
    exact attr_run I hA hC (I.zle _ _ hx) hd (getL_vd (.inr (.inl ⟨rfl, rfl⟩))) (handed_reads hi) (q _ _ _ kk (I.toks _) (.d hi))
theorem attr_vec_attrs {k : Str} {items : List PyData} {K : AV → Sig → Prop} (hA : AttrOK cx "Vector" "attrs") (kk : K N σ) : AttrTo cx r (.vec k items) "attrs" σ K := by
  intro A Pr g s x Q E hr I va q
  obtain ⟨_, _, _, _, _, _, rfl, hC, hx, hv, hi⟩ := va.inv
  · obtain ⟨_, hd, ⟨h1, h2, h3, h4, h5, t1, t2, t3, t4, t5, b, n⟩⟩ := I.vd _ _ _ hv
    exact attr_run I hA hC (I.zle _ _ hx) hd (getL_vd (.inr (.inr ⟨rfl, rfl⟩))) rfl (q _ _ _ kk (I.toks _) vr_none)
theorem attr_sym_kind {nm : Str} {K : AV → Sig → Prop} (hA : AttrOK cx "Symbol" "kind") (kk : K (S "symbol") σ) : AttrTo cx r (.sym nm) "kind" σ K := by
  intro A Pr g s x Q E hr I va q
  obtain ⟨_, _, _, _, _, _, _, rfl, hC, hx, hd, h1, h2, h3⟩ := va.inv
  exact attr_run I hA hC (I.zle _ _ hx) (I.zle _ _ hd) h1 rfl (q _ _ _ kk (I.toks _) vr_str)
theorem attr_sym_name {nm : Str} {K : AV → Sig → Prop} (hA : AttrOK cx "Symbol" "name") (kk : K (S nm) σ) : AttrTo cx r (.sym nm) "name" σ K := by
  intro A Pr g s x Q E hr I va q
  obtain ⟨_, _, _, _, _, _, _, rfl, hC, hx, hd, h1, h2, h3⟩ := va.inv
  exact attr_run I hA hC (I.zle _ _ hx) (I.zle _ _ hd) h2 rfl (q _ _ _ kk (I.toks _) vr_str)
theorem attr_call_kind {items : List AV} {tags : List PyData} {K : AV → Sig → Prop} (hA : AttrOK cx "Call" "kind") (kk : K (S "language") σ) : AttrTo cx r (.call items tags) "kind" σ K := by
  intro A Pr g s x Q E hr I va q
  obtain ⟨_, _, _, _, _, _, _, _, _, _, _, rfl, hC, hx, hd, h1, h2, h3, h4, h5, h8, h9⟩ := va.inv
  exact attr_run I hA hC (I.zle _ _ hx) (I.zle _ _ hd) h1 rfl (q _ _ _ kk (I.toks _) vr_str)
theorem attr_call_items {items : List AV} {tags : List PyData} {K : AV → Sig → Prop} (hA : AttrOK cx "Call" "items") (kk : K (.lst items) σ) : AttrTo cx r (.call items tags) "items" σ K := by
  intro A Pr g s x Q E hr I va q
  obtain ⟨_, _, _, _, _, _, _, _, _, _, _, rfl, hC, hx, hd, h1, h2, h3, h4, h5, h8, h9⟩ := va.inv
  exact attr_run I hA hC (I.zle _ _ hx) (I.zle _ _ hd) h2 rfl (q _ _ _ kk (I.toks _) (.lst h5 h8))
theorem attr_call_tags {items : List AV} {tags : List PyData} {K : AV → Sig → Prop} (hA : AttrOK cx "Call" "tags") (kk : K (.d (.list tags)) σ) : AttrTo cx r (.call items tags) "tags" σ K := by
  intro A Pr g s x Q E hr I va q
  obtain ⟨_, _, _, _, _, _, _, _, _, _, _, rfl, hC, hx, hd, h1, h2, h3, h4, h5, h8, h9⟩ := va.inv
  exact attr_run I hA hC (I.zle _ _ hx) (I.zle _ _ hd) h3 (handed_reads h9) (q _ _ _ kk (I.toks _) (.d h9))
theorem cmp_in {op : CmpOp} {T : String} {p : PyData} {ps : List PyData} {K : Bool → Prop} (h1 : PyData.canLayAll0 ps = true) (h2 : p.canLay0 = true) (hd : PyData.depthAll ps ≤ 8) {a : AV} (ha : a = .d (.tuple ps) ∨ a = .d (.list ps))
    (ho : op = .In ∨ op = .NotIn) (k : K (match op with | .In => ps.any fun y => PyData.eqv y p | _ => !ps.any fun y => PyData.eqv y p)) : CmpTo cx r op (.d p) a σ K := by
  intro A Pr g s x y Q E hr I va vb q
  obtain ⟨as, rx⟩ := reads_now I va
  have hu : A.units + 1 + min (PyData.depthAll ps) p.depth < cLine := by
    have := hr.u64
    have : min (PyData.depthAll ps) p.depth ≤ 8 := Nat.le_trans (Nat.min_le_left _ _) hd
    omega
  rcases ha with rfl | rfl <;> obtain ⟨bs, rc⟩ := reads_now I vb <;> rcases ho with rfl | rfl
  · exact in_tuple_reads rc rx h1 h2 hu (q _ _ k I)
  · exact notIn_tuple_reads rc rx h1 h2 hu (q _ _ k I)
  · exact in_list_reads rc rx h1 h2 hu (q _ _ k I)
  · exact notIn_list_reads rc rx h1 h2 hu (q _ _ k I)
theorem reads_lref {a : Addr} {ps : List PyData} (I : Inv cx Pr σ g s) (m : (a, ps.map AV.d) ∈ σ) : ∃ as, Reads s.heap (.ref a) (.list ps) as := by
  obtain ⟨_, _, _, vs, r, n, h1⟩ := I.sg _ m
  obtain ⟨as, ra⟩ := reads_all r
  exact ⟨_, .list h1 rfl rfl (ReadsAll.keeps I.zle ra)⟩
theorem cmp_in_lref {op : CmpOp} {p : PyData} {ps : List PyData} {c : Addr} {K : Bool → Prop} (m : (c, ps.map AV.d) ∈ σ) (h1 : PyData.canLayAll0 ps = true) (h2 : p.canLay0 = true) (hd : PyData.depthAll ps ≤ 8)
    (ho : op = .In ∨ op = .NotIn) (k : K (match op with | .In => ps.any fun y => PyData.eqv y p | _ => !ps.any fun y => PyData.eqv y p)) : CmpTo cx r op (.d p) (.lref c) σ K := by
  intro A Pr g s x y Q E hr I va vb q
  obtain ⟨as, rx⟩ := reads_now I va
  obtain rfl := vb.inv
  obtain ⟨bs, rc⟩ := reads_lref I m
  have hu : A.units + 1 + min (PyData.depthAll ps) p.depth < cLine := by
    have := hr.u64
    have : min (PyData.depthAll ps) p.depth ≤ 8 := Nat.le_trans (Nat.min_le_left _ _) hd
    omega
  rcases ho with rfl | rfl
  · exact in_list_reads rc rx h1 h2 hu (q _ _ k I)
  · exact notIn_list_reads rc rx h1 h2 hu (q _ _ k I)
theorem cmp_ne_lref {a c : Addr} {ps qs : List PyData} {K : Bool → Prop} (m : (a, ps.map AV.d) ∈ σ) (m' : (c, qs.map AV.d) ∈ σ) (h1 : shaped (.list ps) = true) (h2 : shaped (.list qs) = true) (k : K (!PyData.eqv (.list ps) (.list qs))) : CmpTo cx r .NotEq (.lref a) (.lref c) σ K := by
  intro A Pr g s x y Q E hr I va vb q
  obtain rfl := va.inv
  obtain rfl := vb.inv
  obtain ⟨as, ra⟩ := reads_lref I m
  obtain ⟨bs, rb⟩ := reads_lref I m'
  exact ne_dataH ra rb h1 h2 hr.u64 (q _ _ k I)
end
end Mine
end
section
open PySem PySem.W PySem.Spec PySem.SeqAt PySem.Calls PyProof.Rows
set_option Elab.async false
namespace Mine
theorem bindL_skip (k : Str → Option NameKind) : ∀ (b : List (Str × Value)) (m : Str → Option Value) (x : Str), (∀ p ∈ b, p.1 ≠ x) → bindL k b m x = m x
  | [], _, _, _ => rfl
  | (n, v) :: r, m, x, h => by
    have hn : n ≠ x := h _ List.mem_cons_self
    unfold bindL
    rw [bindL_skip k r _ x fun p hp => h p (List.mem_cons_of_mem _ hp)]
    by_cases q : k n = some .local
    · rw [if_pos q]; exact if_neg (Ne.symm hn)
    · rw [if_neg q]
theorem bindC_skip (k : Str → Option NameKind) : ∀ (b : List (Str × Value)) (m : Str → Option Value) (x : Str), (∀ p ∈ b, p.1 ≠ x) → bindC k b m x = m x
  | [], _, _, _ => rfl
  | (n, v) :: r, m, x, h => by
    have hn : n ≠ x := h _ List.mem_cons_self
    unfold bindC
    rw [bindC_skip k r _ x fun p hp => h p (List.mem_cons_of_mem _ hp)]
    by_cases q : k n = some .local
    · rw [if_pos q]
    · rw [if_neg q]; exact if_neg (Ne.symm hn)
theorem bindL_get (k : Str → Option NameKind) : ∀ (b : List (Str × Value)) (m : Str → Option Value) (x : Str) (v : Value), (b.map (·.1)).Nodup → (x, v) ∈ b → k x = some .local → bindL k b m x = some v
  | (n, w) :: r, m, x, v, nd, hm, hk => by
    rw [List.map_cons, List.nodup_cons] at nd
    unfold bindL
    rcases List.mem_cons.mp hm with e | hm
    · cases e
      rw [bindL_skip k r _ n fun p hp q => nd.1 (List.mem_map.mpr ⟨p, hp, q⟩), if_pos hk]; exact if_pos rfl
    · exact bindL_get k r _ x v nd.2 hm hk
theorem bindC_get (k : Str → Option NameKind) : ∀ (b : List (Str × Value)) (m : Str → Option Value) (x : Str) (v : Value), (b.map (·.1)).Nodup → (x, v) ∈ b → k x ≠ some .local → bindC k b m x = some v
  | (n, w) :: r, m, x, v, nd, hm, hk => by
    rw [List.map_cons, List.nodup_cons] at nd
    unfold bindC
    rcases List.mem_cons.mp hm with e | hm
    · cases e
      rw [bindC_skip k r _ n fun p hp q => nd.1 (List.mem_map.mpr ⟨p, hp, q⟩), if_neg hk]; exact if_pos rfl
    · exact bindC_get k r _ x v nd.2 hm hk
theorem lookup_of_mem {α : Type} : ∀ {l : List (Str × α)} {x : Str} {v : α}, (x, v) ∈ l → (l.lookup x).isSome = true
  | (n, w) :: r, x, v, h => by
    rw [List.lookup_cons]
    cases hb : x == n with
    | true => rfl
    | false =>
      rcases List.mem_cons.mp h with e | h
      · cases e; simp at hb
      · exact lookup_of_mem h
theorem cells_acc : ∀ (names : List (Str × NameKind)) (n : Nat) (acc : List (Str × Addr)) (y : Str × Addr), y ∈ acc → y ∈ cellsFrom n names acc
  | [], _, _, _, h => h
  | (x, k) :: r, n, acc, y, h => by
    unfold cellsFrom
    split
    · exact cells_acc r _ _ _ (List.mem_cons_of_mem _ h)
    · exact cells_acc r _ _ _ h
theorem cells_has : ∀ (names : List (Str × NameKind)) (n : Nat) (acc : List (Str × Addr)) (x : Str), (x, NameKind.cell) ∈ names → ((cellsFrom n names acc).lookup x).isSome = true
  | (y, k) :: r, n, acc, x, h => by
    unfold cellsFrom
    rcases List.mem_cons.mp h with e | h
    · cases e
      rw [if_pos (by rfl)]
      exact lookup_of_mem (cells_acc r _ _ (y, n) List.mem_cons_self)
    · split
      · exact cells_has r _ _ x h
      · exact cells_has r _ _ x h
noncomputable def okNames (names : List (Str × NameKind)) (xs : List Str) (gs : List Str) : Bool :=
  xs.all (fun x => (names.lookup x == some .local || names.lookup x == some .cell) && !(x == ("__debug__" : Str))) && decide xs.Nodup && gs.all fun x => names.lookup x == some .globalImplicit && !(x == ("__debug__" : Str))
theorem okNames_x {names : List (Str × NameKind)} {xs gs : List Str} (h : okNames names xs gs = true) : ∀ x ∈ xs, (names.lookup x = some .local ∨ names.lookup x = some .cell) ∧ (x == ("__debug__" : Str)) = false := fun x hx => by
  unfold okNames at h
  simp only [Bool.and_eq_true, List.all_eq_true] at h
  have := h.1.1 x hx
  simp only [Bool.or_eq_true, beq_iff_eq, Bool.not_eq_true'] at this
  exact ⟨this.1, this.2⟩
theorem okNames_nd {names : List (Str × NameKind)} {xs gs : List Str} (h : okNames names xs gs = true) : xs.Nodup := by
  unfold okNames at h
  simp only [Bool.and_eq_true] at h
  exact of_decide_eq_true h.1.2
theorem okNames_g {names : List (Str × NameKind)} {xs gs : List Str} (h : okNames names xs gs = true) : ∀ x ∈ gs, names.lookup x = some .globalImplicit ∧ (x == ("__debug__" : Str)) = false := fun x hx => by
  unfold okNames at h
  simp only [Bool.and_eq_true, List.all_eq_true] at h
  have := h.2 x hx
  simp only [beq_iff_eq, Bool.not_eq_true'] at this
  exact ⟨this.1, this.2⟩
noncomputable def GV (cx : Cx) (e : Str × AV) : Prop := ∀ g : Gh, (∀ b o, cx.S0.heap.get? b = some o → g.Z.get? b = some o) → ∃ v, VR cx g e.2 v ∧ (cx.mg e.1 = some v ∨ (cx.mg e.1 = none ∧ cx.mb e.1 = some v))
inductive GS (cx : Cx) : Loc → Prop
  | nil : GS cx []
  | cons {n a G} : GV cx (n, a) → GS cx G → GS cx ((n, a) :: G)
theorem GS.all {cx : Cx} : ∀ {G}, GS cx G → ∀ e ∈ G, GV cx e
  | _, .cons h t, e, he => by
    rcases List.mem_cons.mp he with rfl | he
    · exact h
    · exact t.all e he
noncomputable def outV : Out → AV
  | .ret a => a
  | _ => N
section
variable {cx : Cx} {r : Nat} {G : Glo} {KE : Sig → Prop} {Pr : Addr → Option Obj} {g : Gh} {s : Shared} {ma : Loc} {σ : Sig}
theorem gv_fn {n : Str} {f : Addr} {K0 : Frag} (hK : cx.K = K0) (e : nsIn K0 mainGlobals n = some (some (.ref f))) : GV cx (n, .fn n) := fun _ _ => ⟨_, .fn (hK ▸ e), .inl (mg_of cx.X cx.T.g (hK ▸ e))⟩
theorem gv_builtin {n : Str} {v : Value} {K0 : Frag} (hK : cx.K = K0) (e : nsIn K0 mainGlobals n = some none) (hv : bootBuiltins n = some v) (hn : n ≠ "__name__") : GV cx (n, .cv v) := fun _ _ => ⟨_, .cv, .inr ⟨mg_none_of cx.X cx.T.g (hK ▸ e), (cx.T.builtins n hn).trans hv⟩⟩
theorem gv_int {n : Str} {i : Int} {t : Tok} {K0 : Frag} (hK : cx.K = K0) (e : nsIn K0 mainGlobals n = some (some (.int i t))) : GV cx (n, I i) := fun _ _ => ⟨_, vr_int, .inl (mg_of cx.X cx.T.g (hK ▸ e))⟩
theorem gv_pair {n : Str} {i j : Int} {t u : Tok} {a : Addr} {o : Obj} {k : Nat} {K0 : Frag} (hK : cx.K = K0) (e : nsIn K0 mainGlobals n = some (some (.ref a))) (ho : K0.lookup a = some o) (hc : o.cls = .type "tuple") (hd : o.data = .seq #[.int i t, .int j u] k) :
    GV cx (n, .d (.tuple [.int i, .int j])) := fun g hg => ⟨.ref a, .d (.tuple (hg _ _ (cx.X _ _ (hK ▸ ho))) hc hd (.cons (.int i t) (.cons (.int j u) .nil))), .inl (mg_of cx.X cx.T.g (hK ▸ e))⟩
theorem Exc.sub {fr : Option (List Env)} {Pr' : Addr → Option Obj} {σ' : Sig} {h : Heap} {e : Addr} (X : Exc cx fr Pr' σ' g h e) (hp : ∀ b o, Pr b = some o → Pr' b = some o) (hσ : ∀ b ∈ σ.map (·.1), b ∈ σ'.map (·.1)) : Exc cx fr Pr σ g h e := by
  obtain ⟨C, l, h1, h2, B, h3, h4, h5⟩ := X
  refine ⟨C, l, h1, h2, B, h3, fun b o e hk => h4 b o e ?_, h5⟩
  rcases hk with x | x | x | ⟨x, a, d⟩
  · exact .inl x
  · exact .inr (.inl x)
  · exact .inr (.inr (.inl (hσ b x)))
  · exact .inr (.inr (.inr ⟨x, hp _ _ a, d⟩))
theorem frames_of {B : Heap} (I : Inv cx Pr σ g s) : ∀ {l : List Env}, (∀ env ∈ l, env.scope.kind ≠ .module ∧ ∃ L o es n, env.frame = some L ∧ Pr L = some o ∧ o.data = .dict es n) → (∀ env ∈ l, ∀ L, env.frame = some L → B.get? L = none) → s.heap.FunFrames B l
  | [], _, _ => trivial
  | env :: l, h, hb => by
    obtain ⟨hk, L, o, es, n, hf, hp, hd⟩ := h env List.mem_cons_self
    obtain ⟨_, _, sl, _, q⟩ := I.pr _ _ hp
    exact ⟨hk, ⟨L, _, hf, hb _ List.mem_cons_self L hf, q, fun vs z => by rw [show ({ o with slots := sl } : Obj).data = o.data from rfl, hd] at z; cases z⟩, frames_of I (fun e he => h e (List.mem_cons_of_mem _ he)) fun e he => hb e (List.mem_cons_of_mem _ he)⟩
theorem Inv.left (I : Inv cx Pr σ g s) {B h' : Heap} (k : B.StaysIn h') (u : s.heap.UpToSlots h')
    (hb : ∀ b o, s.heap.get? b = some o → ((∃ x, g.Z.get? b = some x) ∨ (∃ x, g.V b = some x) ∨ b ∈ σ.map (·.1) ∨ ∃ x, Pr b = some x ∧ ∀ es n, x.data ≠ .dict es n) → B.get? b = some o) : Inv cx Pr σ g { s with heap := h' } :=
  { zle := fun b o e => k _ _ (hb b o (I.zle b o e) (.inl ⟨_, e⟩))
    base := I.base
    pr := fun b o e => by
      obtain ⟨a, v, sl, hf, q⟩ := I.pr b o e
      refine ⟨a, v, ?_⟩
      by_cases hd : ∃ es n, o.data = .dict es n
      · obtain ⟨es, n, hd⟩ := hd
        obtain ⟨sl', q'⟩ := u b _ q fun vs z => by rw [show ({ o with slots := sl } : Obj).data = o.data from rfl, hd] at z; cases z
        exact ⟨sl', fun z => absurd hd (z es n), q'⟩
      · exact ⟨sl, hf, k _ _ (hb b _ q (.inr (.inr (.inr ⟨o, e, fun es n z => hd ⟨es, n, z⟩⟩))))⟩
    sg := fun e he => by
      obtain ⟨a, b, v, vs, r, n, q⟩ := I.sg e he
      exact ⟨a, b, v, vs, r, n, k _ _ (hb _ _ q (.inr (.inr (.inl (List.mem_map_of_mem he)))))⟩
    nd := I.nd
    vd := fun d kv iv e => by
      exact ⟨(I.vd d kv iv e).1, (I.vd d kv iv e).2.map fun _ q => k _ _ (hb _ _ q (.inr (.inl ⟨_, e⟩)))⟩
    gens := I.gens, os := I.os, dr := I.dr }
theorem leave_exc {A : Around} {env : Env} {l : List Env} {e : Addr} {M : Model} {Q : Unit → Shared → Prop} {E : Value → Shared → Prop} (hA : A.frames = some (env :: l)) (hf : env.frame = some env.locals) (hfr : FrOK A Pr) (I : Inv cx Pr σ g s)
    (X : Exc cx A.frames Pr σ g s.heap e) (q : ∀ h', Inv cx Pr σ g { s with heap := h' } → Exc cx (some l) Pr σ g h' e → Q () { s with heap := h' }) : wpAny M A (leaving env (.ref e)) Q E s := by
  obtain ⟨C, l', h1, h2, B, h3, h4, h5, h6, h7⟩ := X
  rw [hA] at h2; cases h2
  obtain ⟨_, l'', hl, hfr⟩ := hfr
  rw [hA] at hl; cases hl
  have FF := frames_of (B := B) I hfr h6
  have fin : ∀ h' a0, Heap.FlyingW B l e (.ref C) a0 h' → s.heap.UpToSlots h' → Q () { s with heap := h' } := fun h' a0 fl u => by
    refine q h' (I.left fl.1 u h4) ⟨C, l, h1, rfl, B, fl.1, fun b o hb hk => ?_, h5, fun e he => h6 e (List.mem_cons_of_mem _ he), .inr ⟨a0, fl⟩⟩
    have : ∃ o', s.heap.get? b = some o' := by
      rcases hk with ⟨x, z⟩ | ⟨⟨kv, iv⟩, z⟩ | z | ⟨x, z, _⟩
      · exact ⟨x, I.zle _ _ z⟩
      · exact (I.vd _ _ _ z).2.ne
      · obtain ⟨p, hp, rfl⟩ := List.mem_map.mp z
        obtain ⟨_, _, _, _, _, o', z⟩ := I.sg p hp
        exact ⟨_, z⟩
      · obtain ⟨_, _, sl, _, z⟩ := I.pr _ _ z; exact ⟨_, z⟩
    obtain ⟨o', z⟩ := this
    have zb := h4 b o' z hk
    have zh := fl.1 _ _ zb
    rw [hb] at zh; cases zh
    exact zb
  rcases h7 with ⟨oe, vs, x, he, hc, hd, v1, v0⟩ | ⟨a0, fl⟩
  · exact wpAny_leaving_firstW hA FF hf he h3 h5 hd v1 v0 fun h' ⟨k1, k2, k3, k4⟩ => fin h' x ⟨k1, h5, k2.2.2, hc ▸ k3⟩ k4
  · exact wpAny_leaves_onW hA hf fl fun h' fl' u => fin h' a0 fl' u
theorem call_run {n : Str} {f : Addr} {oc : Value} {od : Option Addr} {osl : Array (Option Value)} {name qual : Str} {params : Arguments} {body : List Stmt} {scope : Scope} {dV kV doc pm cdv ct : Value} {an : Option Addr}
    {ps us : List Str} {gl : Loc} {avs davs : List AV} {ds : List Value} {K : AV → Sig → Prop}
    (h1 : nsIn cx.K mainGlobals n = some (some (.ref f)))
    (h2 : cx.K.lookup f = some ⟨oc, od, .func (fnOf name qual params body scope dV kV doc pm an cdv ct), osl⟩) (h3 : codeIn cx.K cdv qual = true)
    (hb : ∀ s vs, vs.length = avs.length → cx.K.In s.heap → BindsTo s (fnOf name qual params body scope dV kV doc pm an cdv ct) ⟨vs, []⟩ (ps.zip (vs ++ ds)))
    (hds : ∀ g, VRs cx g davs ds) (hlen : ps.length = avs.length + davs.length)
    (hn : okNames scope.names (ps ++ us) (gl.map (·.1)) = true) (hG : GS cx gl)
    (hma : ps.zip (avs ++ davs) ++ us.map (fun x => (x, AV.undef)) = ma)
    (hco : scope.isCoroutine = false) (hgen : scope.isGenerator = false) (hk : scope.kind = .function)
    (h : XsTo cx r ⟨gl, scope.names⟩ (fun σ' => ∃ σ'', σ''.Sublist σ' ∧ KE σ'') (fun o _ σ' => ∃ σ'', σ''.Sublist σ' ∧ K (outV o) σ'') body ma σ) : CallTo cx (r + 1) KE (.fn n) avs σ K := by
  intro A Pr g s fv vs Q E hr hf I vf va q qe
  have e := fn_of vf
  · skip
    rw [h1] at e; cases e
    have hX := kin I
    refine wpAny_call (codeAny_call_function (by unfold Room at hr; omega) (hX _ _ h2) rfl hco hgen rfl (codeRec_of hX h3) ?_)
    refine hb s vs va.length.symm hX _ _ _ _ ?_
    have hnx := okNames_x hn
    have hnd := okNames_nd hn
    have hlen' : ps.length = (vs ++ ds).length := by rw [hlen, List.length_append, va.length, (hds g).length]
    have hkeys : (ps.zip (vs ++ ds)).map (·.1) = ps := by
      have := List.map_fst_zip (l₁ := ps) (l₂ := vs ++ ds) (Nat.le_of_eq hlen')
      exact this
    have hkind : ∀ x ∈ ps.zip (vs ++ ds), scope.names.lookup x.1 = some .local ∨ (scope.names.lookup x.1 = some .cell ∧ ((cellsFrom (s.heap.objs.size + 1) scope.names []).lookup x.1).isSome = true) := fun x hx => by
      have hxp : x.1 ∈ ps := hkeys ▸ List.mem_map_of_mem hx
      rcases (hnx x.1 (List.mem_append_left _ hxp)).1 with e | e
      · exact .inl e
      · exact .inr ⟨e, cells_has _ _ _ _ (mem_of_lookup e)⟩
    refine wpAny_newFunctionEnv_cells hk hkind fun env he s' x => ?_
    have hL : env.locals = s.heap.objs.size := by rw [he]; rfl
    have hcs : env.cells = cellsFrom (s.heap.objs.size + 1) scope.names [] := by rw [he]; rfl
    have hsc : env.scope = scope := by rw [he]; rfl
    have hfr : env.frame = some env.locals := by rw [he]; rfl
    have hgl : env.globals = mainGlobals := by rw [he]; rfl
    have hbl : env.builtins = builtinsNs := by rw [he]; rfl
    have hko : ∀ x, env.kindOf x = scope.names.lookup x := fun x => by show env.scope.names.lookup x = _; rw [hsc]
    clear he
    obtain ⟨h', tk, rfl, keep⟩ := x.done
    refine ⟨cx.T.nolimit.keeps (fun b o e => keep _ _ (I.zle _ _ (I.base _ _ e))), codeAny_func ?_⟩
    -- the new objects
    have hnew : ∀ b ∈ env.locals :: env.cells.map (·.2), s.heap.get? b = none := fun b hb => by
      rcases List.mem_cons.mp hb with rfl | hb
      · exact get_none_of_size (Nat.le_of_eq hL.symm)
      · obtain ⟨⟨y, c⟩, hy, rfl⟩ := List.mem_map.mp hb
        exact get_none_of_size (Nat.le_of_lt (hL ▸ x.above y c hy))
    have I1 := I.tell (as := env.locals :: env.cells.map (·.2)) tk keep hnew
    obtain ⟨oL, hoL, hO⟩ := ns_split x.toInCall.ns
    have pL : (fun b => if b ∈ env.locals :: env.cells.map (·.2) then h'.get? b else Pr b) env.locals = some oL := by
      show (if _ then _ else _) = _
      rw [if_pos List.mem_cons_self]; exact hoL
    have hmv : ∀ y v, (y, v) ∈ ps.zip (vs ++ ds) → env.kindOf y = some .local → bindL env.kindOf (ps.zip (vs ++ ds)) (fun _ => none) y = some v := fun y v hy hk => bindL_get _ _ _ _ _ (by rw [hkeys]; exact (List.nodup_append.mp hnd).1) hy hk
    have hcv : ∀ y v, (y, v) ∈ ps.zip (vs ++ ds) → env.kindOf y = some .cell → bindC env.kindOf (ps.zip (vs ++ ds)) (fun _ => none) y = some v := fun y v hy hk => bindC_get _ _ _ _ _ (by rw [hkeys]; exact (List.nodup_append.mp hnd).1) hy (by rw [hk]; simp)
    have hslot : ∀ y, (env.kindOf y = some .local ∨ env.kindOf y = some .cell) → ∃ ov, Slot env (fun b => if b ∈ env.locals :: env.cells.map (·.2) then h'.get? b else Pr b) (bindL env.kindOf (ps.zip (vs ++ ds)) fun _ => none) y ov ∧ ∀ v, (y, v) ∈ ps.zip (vs ++ ds) → ov = some v := fun y hy => by
      rcases hy with hy | hy
      · exact ⟨_, .loc hy rfl, fun v hv => hmv y v hv hy⟩
      · obtain ⟨c, hc⟩ := Option.isSome_iff_exists.mp (cells_has scope.names (s.heap.objs.size + 1) [] y (mem_of_lookup ((hko y).symm.trans hy)))
        rw [← hcs] at hc
        obtain ⟨oc, hoc, hdc⟩ := x.cell y c hc
        refine ⟨_, .cell hy hc ?_ hdc, fun v hv => hcv y v hv hy⟩
        show (if _ then _ else _) = _
        rw [if_pos (List.mem_cons_of_mem _ (List.mem_map.mpr ⟨_, mem_of_lookup hc, rfl⟩))]; exact hoc
    have vrs : VRs cx g (avs ++ davs) (vs ++ ds) := va.append (hds g)
    have F1 : Fm cx env ⟨gl, scope.names⟩ ma (fun b => if b ∈ env.locals :: env.cells.map (·.2) then h'.get? b else Pr b) g :=
      { kind := by rw [hsc]; exact hk
        glob := hgl
        blt := hbl
        loc := ⟨oL, _, pL, hO, fun e he => by
          rw [← hma] at he
          have hxs : e.1 ∈ ps ++ us := by
            rcases List.mem_append.mp he with he | he
            · exact List.mem_append_left _ (List.of_mem_zip he).1
            · obtain ⟨y, hy, rfl⟩ := List.mem_map.mp he; exact List.mem_append_right _ hy
          obtain ⟨hk1, hd1⟩ := hnx _ hxs
          rw [← hko] at hk1
          obtain ⟨ov, sl, hov⟩ := hslot e.1 hk1
          refine ⟨hd1, ov, sl, ?_⟩
          rcases List.mem_append.mp he with he | he
          · refine .inr ?_
            obtain ⟨i, hi, hie⟩ := List.mem_iff_getElem.mp he
            rw [List.getElem_zip] at hie
            have hi1 : i < ps.length := by rw [List.length_zip] at hi; omega
            have hi2 : i < (avs ++ davs).length := by rw [List.length_zip] at hi; omega
            obtain ⟨v, hv, vr⟩ := vrs.get (i := i) (a := e.2) (by rw [List.getElem?_eq_getElem hi2, ← hie])
            refine ⟨v, hov v ?_, vr⟩
            obtain ⟨hi3, hv'⟩ := List.getElem?_eq_some_iff.mp hv
            refine List.mem_iff_getElem.mpr ⟨i, by rw [List.length_zip]; omega, ?_⟩
            rw [List.getElem_zip, hv', ← hie]
          · obtain ⟨y, hy, rfl⟩ := List.mem_map.mp he; exact .inl rfl⟩
        nd := by
          rw [← hma, List.map_append, List.map_map]
          have e1 : (ps.zip (avs ++ davs)).map (·.1) = ps := List.map_fst_zip (by rw [hlen, List.length_append]; exact Nat.le_refl _)
          rw [e1]
          have e2 : us.map ((fun x : Str × AV => x.1) ∘ fun x => (x, AV.undef)) = us := by rw [show ((fun x : Str × AV => x.1) ∘ fun x => (x, AV.undef)) = id from rfl, List.map_id]
          rw [e2]; exact hnd
        cinj := fun y z c hy hz => name_of_addr x.apart (mem_of_lookup hy) (mem_of_lookup hz)
        cl := fun y c hc => by
          obtain ⟨oc, hoc, hdc⟩ := x.cell y c hc
          refine ⟨oc, _, ?_, hdc⟩
          show (if _ then _ else _) = _
          rw [if_pos (List.mem_cons_of_mem _ (List.mem_map.mpr ⟨_, mem_of_lookup hc, rfl⟩))]; exact hoc
        nm := hko
        gl := fun e he => by
          obtain ⟨a, b⟩ := okNames_g hn e.1 (List.mem_map_of_mem he)
          exact ⟨(hko _).trans a, b, hG.all e he g I.base⟩ }
    obtain ⟨hh, l, hl, hfl⟩ := hf
    have hpk : ∀ b o, Pr b = some o → b ∉ env.locals :: env.cells.map (·.2) := fun b o e hb => by
      obtain ⟨_, _, sl, _, z⟩ := I.pr _ _ e
      rw [hnew b hb] at z; cases z
    have S1 : FrS (A.deeper env) env (fun b => if b ∈ env.locals :: env.cells.map (·.2) then h'.get? b else Pr b) := by
      refine ⟨⟨l, Around.frames_deeper hl⟩, hfr, hh, env :: l, Around.frames_deeper hl, fun e he => ?_⟩
      rcases List.mem_cons.mp he with q | he
      · obtain ⟨es, ep, hd, _⟩ := hO
        exact ⟨by rw [q, hsc, hk]; decide, env.locals, oL, es, ep, by rw [q]; exact hfr, pL, hd⟩
      · obtain ⟨z1, L, o, es, n, z2, z3, z4⟩ := hfl e he
        refine ⟨z1, L, o, es, n, z2, ?_, z4⟩
        show (if _ then _ else _) = _
        rw [if_neg (hpk _ _ z3)]; exact z3
    have back : ∀ {P2 : Addr → Option Obj}, PrStep env (fun b => if b ∈ env.locals :: env.cells.map (·.2) then h'.get? b else Pr b) P2 → ∀ b o, Pr b = some o → P2 b = some o := fun st b o e => by
      have nb := hpk _ _ e
      rw [st.1 b (fun z => nb (z ▸ List.mem_cons_self)) fun y hy => nb (List.mem_cons_of_mem _ (List.mem_map.mpr ⟨_, mem_of_lookup hy, rfl⟩))]
      show (if _ then _ else _) = _
      rw [if_neg nb]; exact e
    refine h (A.deeper env) env _ g _ _ _ hr.deeper S1 F1 I1 (fun P2 g2 σ2 s2 o ma2 fl k2 st L2 F2 I2 fr => ?_) fun P2 g2 σ2 s2 e ma2 ke st L2 F2 I2 x2 => ?_
    · obtain ⟨σ3, hs3, k3⟩ := k2
      have I3 := (I2.sub (back st)).drop (σ' := σ3) (fun e he => hs3.subset he) (List.Nodup.sublist (hs3.map _) I2.nd)
      cases o <;> cases fl <;> simp only [FlowR] at fr
      · exact q g2 σ3 s2 _ _ k3 L2 I3 vr_none
      · exact q g2 σ3 s2 _ _ k3 L2 I3 vr_none
      · exact q g2 σ3 s2 _ _ k3 L2 I3 vr_none
      · exact q g2 σ3 s2 _ _ k3 L2 I3 fr
    · obtain ⟨σ3, hs3, k3⟩ := ke
      refine leave_exc (Around.frames_deeper hl) hfr (S1.step st).2.2 I2 x2 fun h3 I3 x3 => ?_
      have I4 := (I3.sub (back st)).drop (σ' := σ3) (fun e he => hs3.subset he) (List.Nodup.sublist (hs3.map _) I2.nd)
      refine qe g2 σ3 _ e k3 L2 I4 ?_
      rw [hl]
      exact x3.sub (back st) fun b hb => by
        obtain ⟨p, hp, rfl⟩ := List.mem_map.mp hb
        exact List.mem_map_of_mem (hs3.subset hp)
end
end Mine
end
section
open PySem PySem.W PySem.Spec PySem.SeqAt PySem.Calls PyProof.Rows
set_option Elab.async false
namespace Mine
theorem NsO.dict {o : Obj} {m : Str → Option Value} (h : NsO o m) : ∃ es n, o.data = .dict es n := let ⟨es, ep, d, _⟩ := h; ⟨es, ep, d⟩
section
variable {cx : Cx} {r : Nat} {G : Glo} {KE : Sig → Prop} {Pr : Addr → Option Obj} {g : Gh} {s : Shared} {ma : Loc} {σ : Sig}
theorem Slot.ext {env : Env} {P P' : Addr → Option Obj} {m : Str → Option Value} {x : Str} {ov : Option Value} (k : ∀ b o, P b = some o → o.data = .cell ov → P' b = some o) (h : Slot env P m x ov) : Slot env P' m x ov := by
  cases h with
  | loc a b => exact .loc a b
  | cell a b c d => exact .cell a b (k _ _ c d) d
  | free a b c d e => exact .free a b c (k _ _ d e) e
theorem VarOK.ext {env : Env} {P P' : Addr → Option Obj} {m : Str → Option Value} {e : Str × AV} (k : ∀ b o, P b = some o → (∀ vs, o.data ≠ .fields vs) → P' b = some o) (h : VarOK cx env P g m e) : VarOK cx env P' g m e :=
  let ⟨a, ov, b, c⟩ := h
  ⟨a, ov, b.ext fun b o e d => k b o e fun vs z => (by rw [d] at z; cases z), c⟩
theorem Fm.ext {env : Env} {P P' : Addr → Option Obj} (F : Fm cx env G ma P g) (k : ∀ b o, P b = some o → (∀ vs, o.data ≠ .fields vs) → P' b = some o) : Fm cx env G ma P' g :=
  { F with
    loc := let ⟨oL, m, a, b, c⟩ := F.loc; ⟨oL, m, k _ _ a b.nf, b, fun e he => (c e he).ext k⟩
    cl := fun y c hy => let ⟨o, ov, a, d⟩ := F.cl y c hy; ⟨o, ov, k _ _ a fun vs z => (by rw [d] at z; cases z), d⟩ }
theorem FrOK.ext {A : Around} {P P' : Addr → Option Obj} (h : FrOK A P) (k : ∀ b o, P b = some o → (∀ vs, o.data ≠ .fields vs) → P' b = some o) : FrOK A P' :=
  let ⟨z, l, a, b⟩ := h
  ⟨z, l, a, fun e he => let ⟨q, L, o, es, n, f, p, d⟩ := b e he; ⟨q, L, o, es, n, f, k _ _ p fun vs z => (by rw [d] at z; cases z), d⟩⟩
theorem FrS.ext {A : Around} {env : Env} {P P' : Addr → Option Obj} (h : FrS A env P) (k : ∀ b o, P b = some o → (∀ vs, o.data ≠ .fields vs) → P' b = some o) : FrS A env P' := ⟨h.1, h.2.1, h.2.2.ext k⟩
noncomputable def delPr (Pr : Addr → Option Obj) (a : Addr) : Addr → Option Obj := fun b => if b = a then none else Pr b
theorem delPr_ne {Pr : Addr → Option Obj} {a b : Addr} (h : b ≠ a) : delPr Pr a b = Pr b := if_neg h
theorem del_keep {P : Addr → Option Obj} {it : Addr} {o₀ : Obj} (h : P it = some o₀) (hf : ∃ vs, o₀.data = .fields vs) : ∀ b o, P b = some o → (∀ vs, o.data ≠ .fields vs) → delPr P it b = some o := fun b o e d => by
  rw [delPr_ne]
  · exact e
  · rintro rfl
    rw [h] at e; cases e
    obtain ⟨vs, z⟩ := hf
    exact d vs z
theorem set_keep {P : Addr → Option Obj} {it : Addr} {o₁ : Obj} (h : ∀ o, P it = some o → ∃ vs, o.data = .fields vs) : ∀ b o, P b = some o → (∀ vs, o.data ≠ .fields vs) → setPr P it o₁ b = some o := fun b o e d => by
  rw [setPr_ne]
  · exact e
  · rintro rfl
    obtain ⟨vs, z⟩ := h _ e
    exact d vs z
theorem Inv.prEq {P P' : Addr → Option Obj} (I : Inv cx P σ g s) (h : ∀ b, P b = P' b) : Inv cx P' σ g s := by rw [← funext h]; exact I
theorem Inv.outOf (I : Inv cx Pr σ g s) {it : Addr} {o : Obj} (hp : Pr it = some o) {h' : Heap} (t : Nat) (hs : Heap.ExtBut it s.heap h') : Inv cx (delPr Pr it) σ g { s with heap := h', toks := t } := by
  obtain ⟨az, av, _⟩ := I.pr _ _ hp
  exact
  { zle := fun b o e => hs b o (some_ne az e) (I.zle b o e)
    base := I.base
    pr := fun b x e => by
      have n : b ≠ it := fun q => by rw [q] at e; simp [delPr] at e
      rw [delPr_ne n] at e
      obtain ⟨m, v, sl, hf, q⟩ := I.pr b x e
      exact ⟨m, v, sl, hf, hs b _ n q⟩
    sg := fun e he => by
      obtain ⟨m, b, v, vs, r, x, q⟩ := I.sg e he
      have n : e.1 ≠ it := fun z => by rw [z, hp] at b; cases b
      exact ⟨m, by rw [delPr_ne n]; exact b, v, vs, r, x, hs _ _ n q⟩
    nd := I.nd
    vd := fun d kv iv e => by
      exact ⟨(I.vd d kv iv e).1, (I.vd d kv iv e).2.map fun _ q => hs _ _ (some_ne av e) q⟩
    gens := I.gens, os := I.os, dr := I.dr }
theorem Inv.tell1 (I : Inv cx Pr σ g s) {it : Addr} {o : Obj} {h' : Heap} (t : Nat) (k : ∀ b o, s.heap.get? b = some o → h'.get? b = some o) (hn : s.heap.get? it = none) (ho : h'.get? it = some o) :
    Inv cx (setPr Pr it o) σ g { s with heap := h', toks := t } :=
  (I.tell (as := [it]) t k fun b hb => by rw [List.mem_singleton.mp hb]; exact hn).prEq fun b => by
    by_cases q : b = it
    · subst q; simp [setPr, ho]
    · simp [setPr, q]
inductive ItO (cx : Cx) (g : Gh) : Obj → List AV → Prop
  | list {o a ol vs n i l} : o.cls = .type "list_iterator" → o.data = .fields #[.ref a, .int (i : Nat) 0] → g.Z.get? a = some ol → ol.cls = .type "list" → ol.data = .seq vs n → VRs cx g l (vs.toList.drop i) → ItO cx g o l
  | tup {o a ol vs n i l} : o.cls = .type "tuple_iterator" → o.data = .fields #[.ref a, .int (i : Nat) 0] → g.Z.get? a = some ol → ol.cls = .type "tuple" → ol.data = .seq vs n → VRs cx g l (vs.toList.drop i) → ItO cx g o l
  | rev {o a ol vs n l} {i : Nat} : o.cls = .type "list_reverseiterator" → o.data = .fields #[.ref a, rawInt ((i : Int) - 1)] → g.Z.get? a = some ol → ol.cls = .type "list" → ol.data = .seq vs n → VRs cx g l (vs.toList.take i) → i ≤ vs.size → ItO cx g o l.reverse
  | rng {i n : Nat} : ItO cx g { cls := .type "range_iterator", dict := none, data := .fields #[rawInt i, rawInt n, rawInt 1], slots := #[] } ((List.range' i n).map fun k => I (k : Nat))
theorem ItO.fields {o : Obj} {l : List AV} (h : ItO cx g o l) : ∃ vs, o.data = .fields vs := by cases h <;> exact ⟨_, by first | assumption | rfl⟩
theorem ItO.nd {o : Obj} {l : List AV} (h : ItO cx g o l) : ∀ es n, o.data ≠ .dict es n := fun es n z => by obtain ⟨vs, q⟩ := h.fields; rw [q] at z; cases z
theorem ItO.mono {g' : Gh} {o : Obj} {l : List AV} (L : g.le g') (h : ItO cx g o l) : ItO cx g' o l := by
  cases h with
  | list a b c d e f => exact .list a b (L.z _ _ c) d e (f.mono L)
  | tup a b c d e f => exact .tup a b (L.z _ _ c) d e (f.mono L)
  | rev a b c d e f h => exact .rev a b (L.z _ _ c) d e (f.mono L) h
  | rng => exact .rng
theorem at_it {it : Addr} {o : Obj} (I : Inv cx Pr σ g s) (hp : Pr it = some o) (hf : ∀ es n, o.data ≠ .dict es n) : s.heap.get? it = some o := by
  obtain ⟨_, _, sl, h, q⟩ := I.pr _ _ hp
  rw [h hf] at q; exact q
theorem VRs.cons_inv {a : AV} {l : List AV} {vs : List Value} (h : VRs cx g (a :: l) vs) : ∃ v t, vs = v :: t ∧ VR cx g a v ∧ VRs cx g l t := by cases h with | cons x y => exact ⟨_, _, rfl, x, y⟩
theorem drop_item {vs : Array Value} {i : Nat} {v : Value} {t : List Value} (h : vs.toList.drop i = v :: t) : vs[i]? = some v ∧ vs.toList.drop (i + 1) = t := by
  have h1 : (vs.toList.drop i)[0]? = some v := by rw [h]; rfl
  rw [List.getElem?_drop] at h1
  refine ⟨by simpa using h1, ?_⟩
  rw [← List.drop_drop, h]; rfl
theorem drop_end {vs : Array Value} {i : Nat} (h : vs.toList.drop i = []) : vs[i]? = none := by
  have := List.drop_eq_nil_iff.mp h
  simp at this ⊢; omega
theorem VRs.snoc_inv : ∀ {ws : List Value} {w : Value} {l : List AV}, VRs cx g l (ws ++ [w]) → ∃ l' x, l = l' ++ [x] ∧ VRs cx g l' ws ∧ VR cx g x w
  | [], _, _, h => by cases h with | cons a t => cases t; exact ⟨[], _, rfl, .nil, a⟩
  | _ :: _, _, _, h => by
    cases h with
    | cons a t =>
      obtain ⟨l', x, rfl, r, q⟩ := VRs.snoc_inv t
      exact ⟨_ :: l', x, rfl, .cons a r, q⟩
theorem it_next {A : Around} {it : Addr} {o : Obj} {l : List AV} {Q : Option Value → Shared → Prop} {E : Value → Shared → Prop} (hh : A.handled = none) (J : Inv cx Pr σ g s) (hp : Pr it = some o) (O : ItO cx g o l)
    (q0 : l = [] → ∀ h', Inv cx (delPr Pr it) σ g { s with heap := h' } → Q none { s with heap := h' })
    (q1 : ∀ a l' v o' h' tk, l = a :: l' → VR cx g a v → ItO cx g o' l' → Inv cx (setPr Pr it o') σ g { s with heap := h', toks := tk } → Q (some v) { s with heap := h', toks := tk }) :
    wpAny (model cx.prog cx.w) A (pyNext (.ref it)) Q E s := by
  have hit := at_it J hp O.nd
  cases O with
  | @list _ a ol vs n i _ h1 h2 h3 h4 h5 h6 =>
    have hI : s.heap.IsListIter it a i := ⟨o, hit, h1, h2⟩
    have hL : s.heap.IsList a vs := ⟨ol, J.zle _ _ h3, h4, n, h5⟩
    cases l with
    | nil =>
      have e : vs.toList.drop i = [] := by cases h' : vs.toList.drop i with | nil => rfl | cons => rw [h'] at h6; cases h6
      exact wpAny_pyNext_list_end hh hI hL (drop_end e) fun h' hs => q0 rfl h' (J.outOf hp s.toks hs)
    | cons x l =>
      obtain ⟨v, t, e, vr, rs⟩ := h6.cons_inv
      obtain ⟨e1, e2⟩ := drop_item e
      refine wpAny_pyNext_list_item hI hL e1 fun h' hI' hs => ?_
      obtain ⟨o', ho', c', d'⟩ := hI'
      exact q1 x l v o' h' _ rfl vr (.list c' d' h3 h4 h5 (e2 ▸ rs)) (J.setObj hp s.toks hs ho')
  | @tup _ a ol vs n i _ h1 h2 h3 h4 h5 h6 =>
    have hI : s.heap.IsTupleIter it a i := ⟨o, hit, h1, h2⟩
    have hL : s.heap.IsTuple a vs := ⟨ol, J.zle _ _ h3, h4, n, h5⟩
    cases l with
    | nil =>
      have e : vs.toList.drop i = [] := by cases h' : vs.toList.drop i with | nil => rfl | cons => rw [h'] at h6; cases h6
      exact wpAny_pyNext_tuple_end hh hI hL (drop_end e) fun h' hs => q0 rfl h' (J.outOf hp s.toks hs)
    | cons x l =>
      obtain ⟨v, t, e, vr, rs⟩ := h6.cons_inv
      obtain ⟨e1, e2⟩ := drop_item e
      refine wpAny_pyNext_tuple_item hI hL e1 fun h' hI' hs => ?_
      obtain ⟨o', ho', c', d'⟩ := hI'
      exact q1 x l v o' h' _ rfl vr (.tup c' d' h3 h4 h5 (e2 ▸ rs)) (J.setObj hp s.toks hs ho')
  | @rev _ a ol vs n l i h1 h2 h3 h4 h5 h6 h7 =>
    have hL : s.heap.IsList a vs := ⟨ol, J.zle _ _ h3, h4, n, h5⟩
    cases i with
    | zero =>
      have hI : s.heap.IsRevIter it a (-1) := ⟨o, hit, h1, h2⟩
      have e : l = [] := by
        have := h6.length; simp at this; exact this
      subst e
      exact wpAny_pyNext_rev_end hh hI fun h' hs => q0 rfl h' (J.outOf hp s.toks hs)
    | succ i =>
      have hI : s.heap.IsRevIter it a (i : Int) := ⟨o, hit, h1, by rw [h2]; simp⟩
      have hi : i < vs.size := h7
      have e : vs.toList.take (i + 1) = vs.toList.take i ++ [vs[i]] := by rw [List.take_succ]; simp [hi]
      rw [e] at h6
      obtain ⟨l', x, rfl, g2, g1⟩ := h6.snoc_inv
      refine wpAny_pyNext_rev_item hI hL (x := vs[i]) (by simp [hi]) fun h' hI' hs => ?_
      obtain ⟨o', ho', c', d'⟩ := hI'
      exact q1 x l'.reverse _ o' h' _ (by simp) g1 (.rev c' d' h3 h4 h5 g2 (Nat.le_of_lt hi)) (J.setObj hp s.toks hs ho')
  | @rng i n =>
    cases n with
    | zero => exact wpAny_pyNext_range_end (x := (i : Int)) (left := 0) (step := 1) hh hit (by omega) fun h' hs => q0 rfl h' (J.outOf hp s.toks hs)
    | succ n =>
      refine wpAny_pyNext_range_item (x := (i : Int)) (left := (n + 1 : Nat)) (step := 1) hit (by omega) fun h' hI hs => ?_
      refine q1 (I (i : Nat)) ((List.range' (i + 1) n).map fun k => I (k : Nat)) _ _ h' _ (by simp [List.range'_succ]) vr_int (.rng (i := i + 1) (n := n)) (J.setObj hp _ hs ?_)
      have e1 : ((i : Int) + 1) = ((i + 1 : Nat) : Int) := by omega
      have e2 : (((n + 1 : Nat) : Int) - 1) = (n : Nat) := by omega
      rw [← e1]
      unfold IsRangeIter at hI
      rw [e2] at hI
      exact hI
theorem it_self {A : Around} {it : Addr} {o : Obj} {l : List AV} {Q : Value → Shared → Prop} {E : Value → Shared → Prop} (J : Inv cx Pr σ g s) (hp : Pr it = some o) (O : ItO cx g o l) (q : Q (.ref it) s) : wpAny (model cx.prog cx.w) A (pyIter (.ref it)) Q E s := by
  have hit := at_it J hp O.nd
  cases O with
  | list h1 h2 => exact wpAny_pyIter_listiter ⟨o, hit, h1, h2⟩ q
  | tup h1 h2 => exact wpAny_pyIter_tupleiter ⟨o, hit, h1, h2⟩ q
  | rev h1 h2 => exact wpAny_pyIter_revIter ⟨o, hit, h1, h2⟩ q
  | rng => exact wpAny_pyIter_rangeiter hit q
noncomputable def IeTo (cx : Cx) (r : Nat) (G : Glo) (KE : Sig → Prop) (iter : Expr) (ma : Loc) (σ : Sig) (K : List AV → Sig → Prop) : Prop :=
  ∀ A env Pr g s (Q : Value → Shared → Prop) (E : Value → Shared → Prop), Room r A → FrOK A Pr → Fm cx env G ma Pr g → Inv cx Pr σ g s →
    (∀ g' σ' s' it o l, K l σ' → g.le g' → Pr it = none → Inv cx (setPr Pr it o) σ' g' s' → ItO cx g' o l → Q (.ref it) s') →
    (∀ g' σ' s' e, KE σ' → g.le g' → Inv cx Pr σ' g' s' → Exc cx A.frames Pr σ' g' s'.heap e → E (.ref e) s') →
    wpAny (model cx.prog cx.w) A (eval iter env) (fun x s₁ => wpAny (model cx.prog cx.w) A (pyIter x) Q E s₁) E s
theorem ie_seq {iter : Expr} {K : List AV → Sig → Prop} (h : EvTo cx r G KE iter ma σ (fun a σ1 => ∃ T l, SeqAV T a l ∧ (T = "tuple" ∨ T = "list") ∧ K l σ1)) : IeTo cx r G KE iter ma σ K := by
  intro A env Pr g s Q E hr hf F J q qe
  refine h A env Pr g s _ E hr hf F J (fun g1 σ1 s1 a v k1 L1 J1 v1 => ?_) qe
  obtain ⟨T, l, S, hT, k⟩ := k1
  obtain ⟨b, o, vs, n, rfl, hz, hc, hd, rs⟩ := seq_at S v1
  have fr : s1.heap.get? s1.heap.objs.size = none := get_none_of_size (Nat.le_refl _)
  rcases hT with rfl | rfl
  · refine wpAny_pyIter_tuple ⟨o, J1.zle _ _ hz, hc, n, hd⟩ ?_
    exact q g1 σ1 _ _ _ l k L1 (J1.p_fresh fr) (J1.tell1 s1.toks (fun b o e => Heap.get?_push_of_some _ e) fr (Heap.get?_push_size _ rfl)) (.tup (i := 0) rfl rfl hz hc hd (by simpa using rs))
  · refine wpAny_pyIter_list ⟨o, J1.zle _ _ hz, hc, n, hd⟩ ?_
    exact q g1 σ1 _ _ _ l k L1 (J1.p_fresh fr) (J1.tell1 s1.toks (fun b o e => Heap.get?_push_of_some _ e) fr (Heap.get?_push_size _ rfl)) (.list (i := 0) rfl rfl hz hc hd (by simpa using rs))
theorem ie_rng {iter : Expr} {K : List AV → Sig → Prop} (h : EvTo cx r G KE iter ma σ (fun a σ1 => ∃ n : Nat, a = .rng n ∧ Builtin.Range.small 0 n 1 = true ∧ Builtin.Range.rangeSize 0 n 1 = n ∧ K ((List.range' 0 n).map fun k => I (k : Nat)) σ1)) : IeTo cx r G KE iter ma σ K := by
  intro A env Pr g s Q E hr hf F J q qe
  refine h A env Pr g s _ E hr hf F J (fun g1 σ1 s1 a v k1 L1 J1 v1 => ?_) qe
  obtain ⟨n, rfl, hs, hz, k⟩ := k1
  obtain ⟨_, _, _, _, rfl, hr⟩ := VR.inv v1
  · skip
    refine wpAny_pyIter_range (J1.zle _ _ hr) hs ?_
    have fr : s1.heap.get? s1.heap.objs.size = none := get_none_of_size (Nat.le_refl _)
    rw [hz]
    exact q g1 σ1 _ _ _ _ k L1 (J1.p_fresh fr) (J1.tell1 s1.toks (fun b o e => Heap.get?_push_of_some _ e) fr (Heap.get?_push_size _ rfl)) (.rng (i := 0) (n := n))
end
end Mine
end
section
open PySem PySem.W PySem.Spec PySem.SeqAt PySem.Calls PyProof.Rows
set_option Elab.async false
namespace Mine
section
variable {cx : Cx} {r : Nat} {G : Glo} {KE : Sig → Prop} {Pr : Addr → Option Obj} {g : Gh} {s : Shared} {ma : Loc} {σ : Sig}
theorem ex_assign {x : Str} {px pos : Pos} {value : Expr} {K : Out → Loc → Sig → Prop} (hsw : ∀ env, swapsWith value (some (.Name x px)) pos.line env = pure false)
    (h : EvTo cx r G KE value ma σ (fun a σ1 => StTo cx x a ma (fun ma1 => K .next ma1 σ1))) : ExTo cx r G KE (.Assign [.Name x px] value pos) ma σ K := by
  intro A env Pr g s Q E hr hf F J q qe
  refine wpAny_Assign_Name (h A env Pr g s _ E hr hf.2.2 F J (fun g1 σ1 s1 a v k1 L1 J1 v1 => ?_) fun g1 σ1 s1 e ke L1 J1 x => qe Pr g1 σ1 s1 e ma ke (.refl _ _) L1 (F.mono L1) J1 x) (hsw env)
  exact k1 A env G Pr σ1 g1 s1 v _ E (F.mono L1) J1 v1 fun P2 s2 ma2 k2 st F2 J2 => q P2 g1 σ1 s2 .next ma2 .next k2 st L1 F2 J2 trivial
theorem ex_expr {e : Expr} {pos : Pos} {K : Out → Loc → Sig → Prop} (hsw : ∀ env, swapsWith e none pos.line env = pure false)
    (h : EvTo cx r G KE e ma σ (fun _ σ1 => K .next ma σ1)) : ExTo cx r G KE (.Expr e pos) ma σ K := by
  intro A env Pr g s Q E hr hf F J q qe
  refine wpAny_Expr_any (h A env Pr g s _ E hr hf.2.2 F J (fun g1 σ1 s1 a v k1 L1 J1 v1 => q Pr g1 σ1 s1 .next ma .next k1 (.refl _ _) L1 (F.mono L1) J1 trivial) fun g1 σ1 s1 e ke L1 J1 x => qe Pr g1 σ1 s1 e ma ke (.refl _ _) L1 (F.mono L1) J1 x) ?_ (hsw env)
  unfold interactive; rw [F.kind]; rfl
noncomputable def InTo (cx : Cx) (r : Nat) (op : Operator) (a b : AV) (σ : Sig) (K : AV → Sig → Prop) : Prop :=
  ∀ A Pr g s x y (Q : Value → Shared → Prop) (E : Value → Shared → Prop), Room r A → Inv cx Pr σ g s → VR cx g a x → VR cx g b y →
    (∀ g' σ' s' av v, K av σ' → g.le g' → Inv cx Pr σ' g' s' → VR cx g' av v → Q v s') → wpAny (model cx.prog cx.w) A (inplaceOp op x y) Q E s
theorem in_sub {x y : Int} {K : AV → Sig → Prop} (k : K (I (x - y)) σ) : InTo cx r .Sub (I x) (I y) σ K := by
  intro A Pr g s a b Q E hr J ha hb q
  obtain ⟨t, rfl⟩ := int_of ha
  obtain ⟨u, rfl⟩ := int_of hb
  exact isub_int (q g σ _ _ _ k (.refl g) (J.toks _) vr_int)
theorem in_add {x y : Int} {K : AV → Sig → Prop} (k : K (I (x + y)) σ) : InTo cx r .Add (I x) (I y) σ K := by
  intro A Pr g s a b Q E hr J ha hb q
  obtain ⟨t, rfl⟩ := int_of ha
  obtain ⟨u, rfl⟩ := int_of hb
  exact iadd_int (q g σ _ _ _ k (.refl g) (J.toks _) vr_int)
theorem in_div {x y : Int} {K : AV → Sig → Prop} (hy : y ≠ 0) (hb : y.natAbs.log2 < 9000) (k : K (I (x.fdiv y)) σ) : InTo cx r .FloorDiv (I x) (I y) σ K := by
  intro A Pr g s a b Q E hr J ha hb' q
  obtain ⟨t, rfl⟩ := int_of ha
  obtain ⟨u, rfl⟩ := int_of hb'
  exact ifloordiv_int hy (q g σ _ _ _ k (.refl g) (J.toks _) vr_int) (.inl (PyProof.noPylong_of_log2 hb))
theorem ex_aug {x : Str} {a : AV} {px pos : Pos} {op : Operator} {value : Expr} {K : Out → Loc → Sig → Prop} (hx : Lk x a ma) (hu : a ≠ .undef)
    (h : EvTo cx r G KE value ma σ (fun b σ1 => InTo cx r op a b σ1 (fun c σ2 => StTo cx x c ma (fun ma1 => K .next ma1 σ2)))) : ExTo cx r G KE (.AugAssign (.Name x px) op value pos) ma σ K := by
  intro A env Pr g s Q E hr hf F J q qe
  obtain ⟨m, hn, hv⟩ := fr_of F J
  obtain ⟨hd, ov, hs, hov⟩ := hv _ hx.mem
  rcases hov with e | ⟨v, rfl, vr⟩
  · exact absurd e hu
  · refine wpAny_AugAssign_Name (load_slot F J hn hs ?_)
    refine h A env Pr g s _ E hr hf.2.2 F J (fun g1 σ1 s1 b w k1 L1 J1 v1 => ?_) fun g1 σ1 s1 e ke L1 J1 x => qe Pr g1 σ1 s1 e ma ke (.refl _ _) L1 (F.mono L1) J1 x
    refine k1 A Pr g1 s1 v w _ E hr J1 (vr.mono L1) v1 fun g2 σ2 s2 c z k2 L2 J2 v2 => ?_
    exact k2 A env G Pr σ2 g2 s2 z _ E (F.mono (L1.trans L2)) J2 v2 fun P2 s2 ma2 k2 st F2 J2 => q P2 g2 σ2 s2 .next ma2 .next k2 st (L1.trans L2) F2 J2 trivial
noncomputable def SiTo (cx : Cx) (r : Nat) (o i v : AV) (σ : Sig) (K : Sig → Prop) : Prop :=
  ∀ A Pr g s x y z (Q : Unit → Shared → Prop) (E : Value → Shared → Prop), Room r A → Inv cx Pr σ g s → VR cx g o x → VR cx g i y → VR cx g v z →
    (∀ σ' s', K σ' → Inv cx Pr σ' g s' → Q () s') → wpAny (model cx.prog cx.w) A (setItem x y z) Q E s
theorem setItem_plain {A : Around} {E : Value → Shared → Prop} {l : Addr} {items : Array Value} {k : Int} {t : Tok} {v : Value} {Q : Unit → Shared → Prop} (hl : s.heap.PlainList l items)
    (h0 : 0 ≤ k) (hfit : k < 2 ^ 63) (hn : k < items.size)
    (hQ : ∀ h', h'.PlainList l (items.setIfInBounds k.toNat v) → Heap.SameBut l s.heap h' → Q () { s with heap := h' }) :
    wpAny (model cx.prog cx.w) A (setItem (.ref l) (.int k t) v) Q E s := by
  obtain ⟨ne, ho⟩ := hl
  have hl' : s.heap.IsList l items := ⟨_, ho, rfl, ne, rfl⟩
  unfold setItem
  try with_reducible refine wpAny_holding ?_
  first | refine wpAny_bind (wpAny_pure ?_) | skip
  refine wpAny_bind (wpAny_sequenceKey hl'.typeIs (by decide) ?_)
  refine wpAny_bind (wpAny_callSpecial?_slot (name := Str.ofString "__setitem__") hl'.typeIs slot_list_setitem
    (wpAny_call_entry slot_list_setitem hl'.typeIs entry_list_setitem ?_ (args_list_setitem _ _ _)))
  show wpAny _ _ (Builtin.List.listSubscript? (.int k t) >>= _) _ _ s
  refine wpAny_bind (wpAny_listSubscript_int (fitsIndex_of h0 hfit) ?_)
  clear hfit
  obtain ⟨j, rfl⟩ := Int.eq_ofNat_of_zero_le h0
  have hj : j < items.size := by omega
  have hx' : items[j]? = some items[j] := Array.getElem?_eq_getElem hj
  show wpAny _ _ ((seqItemAt l j >>= fun r => pure (r.map (j, ·))) >>= _) _ _ s
  refine wpAny_bind (wpAny_bind (wpAny_seqItemAt ho rfl (wpAny_pure ?_)))
  rw [hx']
  show wpAny _ _ (setSeqItemAt l j v >>= _) _ _ s
  have hfin : (s.heap.update l (Obj.mapSeq (·.setIfInBounds j v))).PlainList l (items.setIfInBounds j v) := ⟨_, Heap.get?_update_self _ ho rfl⟩
  refine wpAny_bind (wpAny_setSeqItemAt ho rfl ?_)
  first
    | exact wpAny_bind (wpAny_pure (wpAny_pure ⟨.none, rfl, wpAny_pure (hQ _ hfin (Heap.SameBut.update ..))⟩))
    | exact wpAny_pure ⟨.none, rfl, wpAny_pure (hQ _ hfin (Heap.SameBut.update ..))⟩
theorem VRs.set {l : List AV} {vs : List Value} {a : AV} {v : Value} (x : VRs cx g l vs) (h : VR cx g a v) : ∀ (i : Nat), VRs cx g (l.set i a) (vs.set i v) := by
  induction l generalizing vs with
  | nil => intro i; cases x; exact .nil
  | cons b l ih =>
    intro i
    cases x with
    | cons p q =>
      cases i with
      | zero => exact .cons h q
      | succ i => exact .cons p (ih q i)
theorem si_lref {a : Addr} {l : List AV} {k : Int} {v : AV} {σ' : Sig} {K : Sig → Prop} (h0 : 0 ≤ k) (hk : k < 2 ^ 63) (hn : k < l.length) (U : SU a l (l.set k.toNat v) σ σ') (kk : K σ') : SiTo cx r (.lref a) (I k) v σ K := by
  intro A Pr g s x y z Q E hr J vx vy vz q
  obtain rfl := vx.inv
  obtain ⟨t, rfl⟩ := int_of vy
  obtain ⟨_, _, _, vs, rs, hl⟩ := J.sg _ U.mem
  refine setItem_plain hl h0 hk (by rw [rs.size]; exact hn) fun h' hl' hs => ?_
  exact q σ' _ kk (J.setList U s.toks hs hl' (by simpa using rs.set vz k.toNat))
theorem ex_setitem {o i value : Expr} {p pos : Pos} {K : Out → Loc → Sig → Prop} (hsw : ∀ env, swapsWith value (some (.Subscript o i p)) pos.line env = pure false)
    (h : EvTo cx r G KE value ma σ (fun v σ1 => EvTo cx r G KE o ma σ1 (fun ov σ2 => EvTo cx r G KE i ma σ2 (fun iv σ3 => SiTo cx r ov iv v σ3 (fun σ4 => K .next ma σ4))))) : ExTo cx r G KE (.Assign [.Subscript o i p] value pos) ma σ K := by
  intro A env Pr g s Q E hr hf F J q qe
  have er : ∀ {g1 : Gh}, g.le g1 → ∀ g' σ' s' e, KE σ' → g1.le g' → Inv cx Pr σ' g' s' → Exc cx A.frames Pr σ' g' s'.heap e → E (.ref e) s' := fun L g1 σ1 s1 e ke L1 J1 x => qe Pr g1 σ1 s1 e ma ke (.refl _ _) (L.trans L1) (F.mono (L.trans L1)) J1 x
  refine wpAny_Assign_Subscript (h A env Pr g s _ E hr hf.2.2 F J (fun g1 σ1 s1 a v k1 L1 J1 v1 => ?_) (er (.refl g))) (hsw env)
  refine k1 A env Pr g1 s1 _ E hr hf.2.2 (F.mono L1) J1 (fun g2 σ2 s2 b w k2 L2 J2 v2 => ?_) (er L1)
  refine k2 A env Pr g2 s2 _ E hr hf.2.2 (F.mono (L1.trans L2)) J2 (fun g3 σ3 s3 c z k3 L3 J3 v3 => ?_) (er (L1.trans L2))
  exact k3 A Pr g3 s3 w z v _ E hr J3 (v2.mono L3) v3 (v1.mono (L2.trans L3)) fun σ4 s4 k4 J4 => q Pr g3 σ4 s4 .next ma .next k4 (.refl _ _) (L1.trans (L2.trans L3)) (F.mono (L1.trans (L2.trans L3))) J4 trivial
theorem ex_augitem {o i value : Expr} {p pos : Pos} {op : Operator} {K : Out → Loc → Sig → Prop} (hst : ∀ ov iv new, augStore i ov iv new = (do holding [new, ov, iv] (setItem ov iv new); release [new, ov, iv] []; pure Flow.next))
    (h : EvTo cx r G KE o ma σ (fun ov σ1 => EvTo cx r G KE i ma σ1 (fun iv σ2 => ItemTo cx r ov iv σ2 (fun old σ3 => EvTo cx r G KE value ma σ3 (fun v σ4 => InTo cx r op old v σ4 (fun new σ5 => SiTo cx r ov iv new σ5 (fun σ6 => K .next ma σ6))))))) : ExTo cx r G KE (.AugAssign (.Subscript o i p) op value pos) ma σ K := by
  intro A env Pr g s Q E hr hf F J q qe
  have er : ∀ {g1 : Gh}, g.le g1 → ∀ g' σ' s' e, KE σ' → g1.le g' → Inv cx Pr σ' g' s' → Exc cx A.frames Pr σ' g' s'.heap e → E (.ref e) s' := fun L g1 σ1 s1 e ke L1 J1 x => qe Pr g1 σ1 s1 e ma ke (.refl _ _) (L.trans L1) (F.mono (L.trans L1)) J1 x
  refine wpAny_AugAssign_SubscriptAny (h A env Pr g s _ E hr hf.2.2 F J (fun g1 σ1 s1 a ov k1 L1 J1 v1 => ?_) (er (.refl g))) hst
  refine k1 A env Pr g1 s1 _ E hr hf.2.2 (F.mono L1) J1 (fun g2 σ2 s2 b iv k2 L2 J2 v2 => ?_) (er L1)
  have k2' := k2 A Pr g2 s2 ov iv (fun old s₃ => wpAny (model cx.prog cx.w) A (eval value env) (fun v s₄ => wpAny (model cx.prog cx.w) A (inplaceOp op old v) (fun new s₅ => wpAny (model cx.prog cx.w) A (setItem ov iv new) (fun _ => Q Flow.next) E s₅) E s₄) E s₃) E hr J2 (v1.mono L2) v2 (fun g3 σ3 s3 c old k3 L3 J3 v3 => by
    refine k3 A env Pr g3 s3 _ E hr hf.2.2 (F.mono (L1.trans (L2.trans L3))) J3 (fun g4 σ4 s4 d v k4 L4 J4 v4 => ?_) (er (L1.trans (L2.trans L3)))
    refine k4 A Pr g4 s4 old v (fun new s₅ => wpAny (model cx.prog cx.w) A (setItem ov iv new) (fun _ => Q Flow.next) E s₅) E hr J4 (v3.mono L4) v4 fun g5 σ5 s5 e new k5 L5 J5 v5 => ?_
    have Lx := L3.trans (L4.trans L5)
    exact k5 A Pr g5 s5 ov iv new _ E hr J5 (v1.mono (L2.trans Lx)) (v2.mono Lx) v5 fun σ6 s6 k6 J6 => q Pr g5 σ6 s6 .next ma .next k6 (.refl _ _) (L1.trans (L2.trans Lx)) (F.mono (L1.trans (L2.trans Lx))) J6 trivial)
  obtain ⟨_, _, _, _, k2⟩ := k2'
  exact k2
theorem ex_unpack2 {x y : Str} {px py tp pos : Pos} {kk : Nat} {value : Expr} {K : Out → Loc → Sig → Prop} (hsw : ∀ env, swapsWithSole [.Tuple [.Name x px, .Name y py] kk tp] value pos.line env = pure false)
    (hw : ∀ env, swappedStores [.Tuple [.Name x px, .Name y py] kk tp] value env = pure none)
    (h : EvTo cx r G KE value ma σ (fun a σ1 => ∃ a1 a2, SeqAV "tuple" a [a1, a2] ∧ StTo cx x a1 ma (fun ma1 => StTo cx y a2 ma1 (fun ma2 => K .next ma2 σ1)))) : ExTo cx r G KE (.Assign [.Tuple [.Name x px, .Name y py] kk tp] value pos) ma σ K := by
  intro A env Pr g s Q E hr hf F J q qe
  refine Assign_Tuple (h A env Pr g s _ E hr hf.2.2 F J (fun g1 σ1 s1 a v k1 L1 J1 v1 => ?_) fun g1 σ1 s1 e ke L1 J1 x => qe Pr g1 σ1 s1 e ma ke (.refl _ _) L1 (F.mono L1) J1 x) (hsw env) (hw env)
  obtain ⟨a1, a2, S, k⟩ := k1
  obtain ⟨t, vs, rfl, hT, rs⟩ := seq_tup J1 S v1
  obtain ⟨v1, t1, e1, r1, rs⟩ := rs.cons_inv
  obtain ⟨v2, t2, rfl, r2, rs⟩ := rs.cons_inv
  cases rs
  refine assign_Tuple_tuple hf.2.2.1 hT (by rw [← Array.length_toList, e1]; rfl) rfl fun h' hx => ?_
  rw [e1]
  have J2 := J1.keep (h' := h') s1.toks fun b o e => hx b o (Nat.ne_of_lt (Heap.lt_size e)) e
  refine assignInOrder_cons (wpAny_assign_Name (k A env G Pr σ1 g1 _ v1 _ E (F.mono L1) J2 r1 fun P2 s2 ma2 k2 st2 F2 J2 => ?_))
  refine assignInOrder_cons (wpAny_assign_Name (k2 A env G P2 σ1 g1 s2 v2 _ E F2 J2 r2 fun P3 s3 ma3 k3 st3 F3 J3 => ?_))
  exact assignInOrder_nil (q P3 g1 σ1 s3 .next ma3 .next k3 (st2.trans st3) L1 F3 J3 trivial)
theorem swapped2 {x y : Str} {px py tp vp : Pos} {kk vk : Nat} {e1 e2 : Expr} {env : Env} (hk : env.scope.kind = .function) (hx : env.kindOf x = some .local) (hy : env.kindOf y = some .local) (hxy : (x == y) = false)
    (hl : (py.line == px.line) = true) (hs : ([e1, e2].any fun | .Starred .. => true | _ => false) = false) (hf : [e1, e2].all (foldedForSure 8) = false) (hc : [e1, e2].all (constantsAlone 8) = false) :
    swappedStores [.Tuple [.Name x px, .Name y py] kk tp] (.Tuple [e1, e2] vk vp) env = pure (some [x, y]) := by
  have hb : env.blockKind = .function := by unfold Env.blockKind; rw [hk]; rfl
  have hl1 : ((Expr.Name x px).pos.line) = px.line := rfl
  have hyx : (y == x) = false := by rw [beq_eq_false_iff_ne] at hxy ⊢; exact Ne.symm hxy
  unfold swappedStores
  simp only [hb, hx, hy, hl, hl1, List.length_cons, List.length_nil, List.filterMap_cons, List.filterMap_nil, hf, hc, List.head?_cons, Option.map_some, Option.getD_some, beq_self_eq_true, Bool.and_self, if_true, List.eraseDups_cons, List.filter_cons, List.filter_nil, hyx, List.eraseDups_nil, Bool.not_false,
    Nat.reduceAdd, Nat.reduceBEq, bne_self_eq_false, Bool.or_false, Bool.not_true, Bool.false_eq_true, if_false]
  rw [if_neg]
  intro h
  have := hs.symm.trans h
  cases this
theorem ex_swap2 {x y : Str} {px py tp vp pos : Pos} {kk vk : Nat} {e1 e2 : Expr} {K : Out → Loc → Sig → Prop} (hx : G.nm.lookup x = some .local) (hy : G.nm.lookup y = some .local) (hxy : (x == y) = false)
    (hl : (py.line == px.line) = true) (hs : ([e1, e2].any fun | .Starred .. => true | _ => false) = false) (hf : [e1, e2].all (foldedForSure 8) = false) (hc : [e1, e2].all (constantsAlone 8) = false)
    (h : EvTo cx r G KE (.Tuple [e1, e2] vk vp) ma σ (fun a σ1 => ∃ a1 a2, SeqAV "tuple" a [a1, a2] ∧ StTo cx y a2 ma (fun ma1 => StTo cx x a1 ma1 (fun ma2 => K .next ma2 σ1)))) : ExTo cx r G KE (.Assign [.Tuple [.Name x px, .Name y py] kk tp] (.Tuple [e1, e2] vk vp) pos) ma σ K := by
  intro A env Pr g s Q E hr hfr F J q qe
  refine Assign_Tuple_swapped (names := [x, y]) (h A env Pr g s _ E hr hfr.2.2 F J (fun g1 σ1 s1 a v k1 L1 J1 v1 => ?_) fun g1 σ1 s1 e ke L1 J1 x => qe Pr g1 σ1 s1 e ma ke (.refl _ _) L1 (F.mono L1) J1 x) rfl
    (swapped2 F.kind ((F.nm x).trans hx) ((F.nm y).trans hy) hxy hl hs hf hc)
  obtain ⟨a1, a2, S, k⟩ := k1
  obtain ⟨t, vs, rfl, hT, rs⟩ := seq_tup J1 S v1
  obtain ⟨v1, t1, e1, r1, rs⟩ := rs.cons_inv
  obtain ⟨v2, t2, rfl, r2, rs⟩ := rs.cons_inv
  cases rs
  have hsz : vs.size = 2 := by rw [← Array.length_toList, e1]; rfl
  show wpAny _ A (unpackItems (.ref t) 2 none) _ _ _
  rw [← hsz]
  refine unpackItems_tuple hfr.2.2.1 hT fun h' hx => ?_
  rw [e1]
  have J2 := J1.keep (h' := h') s1.toks fun b o e => hx b o (Nat.ne_of_lt (Heap.lt_size e)) e
  refine assignInOrder_cons (wpAny_bindName (k A env G Pr σ1 g1 _ v2 _ E (F.mono L1) J2 r2 fun P2 s2 ma2 k2 st2 F2 J2 => ?_))
  refine assignInOrder_cons (wpAny_bindName (k2 A env G P2 σ1 g1 s2 v1 _ E F2 J2 r1 fun P3 s3 ma3 k3 st3 F3 J3 => ?_))
  exact assignInOrder_nil (q P3 g1 σ1 s3 .next ma3 .next k3 (st2.trans st3) L1 F3 J3 trivial)
noncomputable def WlTo (cx : Cx) (r : Nat) (G : Glo) (K : Out → Loc → Sig → Prop) (t : Expr) (b : List Stmt) (ma : Loc) (σ : Sig) : Prop :=
  ∀ A env Pr g s (R : Result → Shared → Prop), Room r A → FrS A env Pr → Fm cx env G ma Pr g → Inv cx Pr σ g s →
    (∀ Pr' g' σ' s' o ma' f, K o ma' σ' → PrStep env Pr Pr' → g.le g' → Fm cx env G ma' Pr' g' → Inv cx Pr' σ' g' s' → FlowR cx g' o f → R (.ok f) s') →
    codeAny (model cx.prog cx.w) A (.whileLoop t b [] env) R s
theorem ex_while {t : Expr} {b : List Stmt} {pos : Pos} {K : Out → Loc → Sig → Prop} (h : WlTo cx r G K t b ma σ) : ExTo cx r G KE (.While t b [] pos) ma σ K := by
  intro A env Pr g s Q E hr hf F J q _
  exact wpAny_While (h A env Pr g s _ hr hf F J fun P2 g2 σ2 s2 o ma2 f k st L F2 J2 fl => q P2 g2 σ2 s2 o ma2 f k st L F2 J2 fl)
theorem wl_turn {t : Expr} {b : List Stmt} {K : Out → Loc → Sig → Prop}
    (h : TsTo cx r G NoE t ma σ (fun z σ1 => Ways z (XsTo cx r G NoE (fun o ma2 σ2 => match o with
      | .next => WlTo cx r G K t b ma2 σ2
      | .cont => WlTo cx r G K t b ma2 σ2
      | .brk => K .next ma2 σ2
      | .ret a => K (.ret a) ma2 σ2) b ma σ1) (K .next ma σ1))) : WlTo cx r G K t b ma σ := by
  intro A env Pr g s R hr hf F J q
  refine codeAny_of_tree ?_
  show wpAny _ A ((whileTurn t b [] env).onRaise (fun x => do noteFrame x env; theTreesLotGoes x)) _ _ s
  refine wpAny_noted ?_
  simp only [whileTurn]
  refine wpAny_bind (h A env Pr g s _ _ hr hf.2.2 F J (fun g1 σ1 s1 z k1 L1 J1 => ?_) fun _ _ _ _ ke => ke.elim)
  cases z with
  | false =>
    simp only [Bool.false_eq_true, if_false]
    exact wpAny_bind (wpAny_execs_nil (wpAny_pure (q Pr g1 σ1 s1 .next ma .next (k1.2 rfl) (.refl _ _) L1 (F.mono L1) J1 trivial)))
  | true =>
    simp only [if_true]
    refine wpAny_bind (k1.1 rfl A env Pr g1 s1 _ _ hr hf (F.mono L1) J1 (fun P2 g2 σ2 s2 o ma2 f k2 st2 L2 F2 J2 fl => ?_) fun _ _ _ _ _ _ ke => ke.elim)
    have again : ∀ {ma2}, WlTo cx r G K t b ma2 σ2 → Fm cx env G ma2 P2 g2 → codeAny (model cx.prog cx.w) A (.whileLoop t b [] env) R s2 := fun w F2 =>
      w A env P2 g2 s2 R hr (hf.step st2) F2 J2 fun P3 g3 σ3 s3 o ma3 f k3 st3 L3 F3 J3 fl => q P3 g3 σ3 s3 o ma3 f k3 (st2.trans st3) (L1.trans (L2.trans L3)) F3 J3 fl
    cases o <;> cases f <;> simp only [FlowR] at fl
    · exact wpAny_pure ⟨rfl, again k2 F2⟩
    · exact wpAny_pure (q P2 g2 σ2 s2 .next ma2 .next k2 st2 (L1.trans L2) F2 J2 trivial)
    · exact wpAny_pure ⟨rfl, again k2 F2⟩
    · exact wpAny_pure (q P2 g2 σ2 s2 _ ma2 _ k2 st2 (L1.trans L2) F2 J2 fl)
end
end Mine
end
section
open PySem PySem.W PySem.Spec PySem.SeqAt PySem.Calls PyProof.Rows
set_option Elab.async false
namespace Mine
noncomputable def ForTo (cx : Cx) (x : Str) (b : List Stmt) (r : Nat) (G : Glo) (K : Out → Loc → Sig → Prop) : List AV → Loc → Sig → Prop
  | [], ma, σ => K .next ma σ
  | a :: l, ma, σ => StTo cx x a ma (fun ma1 => XsTo cx r G NoE (fun o ma2 σ2 => match o with
      | .next => ForTo cx x b r G K l ma2 σ2
      | .cont => ForTo cx x b r G K l ma2 σ2
      | .brk => K .next ma2 σ2
      | .ret v => K (.ret v) ma2 σ2) b ma1 σ)
section
variable {cx : Cx} {r : Nat} {G : Glo} {KE : Sig → Prop} {Pr : Addr → Option Obj} {g : Gh} {s : Shared} {ma : Loc} {σ : Sig}
theorem it_apart {env : Env} {P : Addr → Option Obj} {it : Addr} {o : Obj} (F : Fm cx env G ma P g) (hp : P it = some o) (hf : ∃ vs, o.data = .fields vs) : it ≠ env.locals := fun z => by
  obtain ⟨oL, m, hL, hO, _⟩ := F.loc
  rw [z, hL] at hp; cases hp
  obtain ⟨vs, q⟩ := hf
  exact hO.nf vs q
theorem cell_apart {env : Env} {P : Addr → Option Obj} {it : Addr} {o : Obj} (F : Fm cx env G ma P g) (hp : P it = some o) (hf : ∃ vs, o.data = .fields vs) : ∀ x, env.cells.lookup x ≠ some it := fun x z => by
  obtain ⟨o', ov, h, d⟩ := F.cl x it z
  rw [hp] at h; cases h
  obtain ⟨vs, q⟩ := hf
  rw [q] at d; cases d
noncomputable def Wk (env : Env) (it : Addr) (P0 P1 : Addr → Option Obj) : Prop :=
  (∀ b, b ≠ env.locals → (∀ x, env.cells.lookup x ≠ some b) → b ≠ it → P1 b = P0 b) ∧
  (∀ b o es n, P0 b = some o → o.data = .dict es n → ∃ o' es' n', P1 b = some o' ∧ o'.data = .dict es' n')
theorem Wk.step {env : Env} {it : Addr} {P0 P1 P2 : Addr → Option Obj} (h : Wk env it P0 P1) (st : PrStep env P1 P2) : Wk env it P0 P2 :=
  ⟨fun b h1 h2 h3 => (st.1 b h1 h2).trans (h.1 b h1 h2 h3), fun b o es n e d => let ⟨o', es', n', e', d'⟩ := h.2 b o es n e d; st.2 b o' es' n' e' d'⟩
theorem Wk.set {env : Env} {it : Addr} {P0 P1 : Addr → Option Obj} {o : Obj} (h : Wk env it P0 P1) (hn : P0 it = none) : Wk env it P0 (setPr P1 it o) :=
  ⟨fun b h1 h2 h3 => (setPr_ne h3).trans (h.1 b h1 h2 h3), fun b o es n e d => by rw [setPr_ne (fun z => by rw [z, hn] at e; cases e)]; exact h.2 b o es n e d⟩
theorem Wk.del {env : Env} {it : Addr} {P0 P1 : Addr → Option Obj} (h : Wk env it P0 P1) (hn : P0 it = none) : PrStep env P0 (delPr P1 it) :=
  ⟨fun b h1 h2 => by
    by_cases q : b = it
    · subst q; rw [hn]; exact if_pos rfl
    · rw [delPr_ne q]; exact h.1 b h1 h2 q, fun b o es n e d => by rw [delPr_ne (fun z => by rw [z, hn] at e; cases e)]; exact h.2 b o es n e d⟩
theorem Wk.refl {env : Env} {it : Addr} {P0 : Addr → Option Obj} : Wk env it P0 P0 := ⟨fun _ _ _ _ => rfl, fun _ o es n e d => ⟨o, es, n, e, d⟩⟩
theorem FrS.set {A : Around} {env : Env} {P : Addr → Option Obj} {it : Addr} {o : Obj} (h : FrS A env P) (hi : ∀ o, P it = some o → ∃ vs, o.data = .fields vs) : FrS A env (setPr P it o) := h.ext (set_keep hi)
inductive FoI (cx : Cx) (A : Around) (env : Env) (x : Str) (b : List Stmt) (r : Nat) (G : Glo) (K : Out → Loc → Sig → Prop) (Pr : Addr → Option Obj) (g : Gh) (it : Addr) (n : Nat) (s : Shared) : Prop
  | mk {l : List AV} {P2 : Addr → Option Obj} {g2 : Gh} {σ2 : Sig} {ma2 : Loc} {o : Obj} (e : l.length = n) (k : ForTo cx x b r G K l ma2 σ2) (W : Wk env it Pr P2) (L : g.le g2) (S : FrS A env P2) (F : Fm cx env G ma2 P2 g2) (J : Inv cx P2 σ2 g2 s) (p : P2 it = some o) (O : ItO cx g2 o l) : FoI cx A env x b r G K Pr g it n s
theorem ex_for {x : Str} {px pos : Pos} {iter : Expr} {b : List Stmt} {K : Out → Loc → Sig → Prop} (hs : ∀ env v, foldedSetIterable iter env v = pure v)
    (h : IeTo cx r G KE iter ma σ (fun l σ1 => ForTo cx x b r G K l ma σ1)) : ExTo cx r G KE (.For (.Name x px) iter b [] pos) ma σ K := by
  intro A env Pr g s Q E hr hf F J q qe
  refine wpAny_For (h A env Pr g s _ E hr hf.2.2 F J (fun g1 σ1 s1 it o l k L1 hn J1 O => ?_) fun g1 σ1 s1 e ke L1 J1 x => qe Pr g1 σ1 s1 e ma ke (.refl _ _) L1 (F.mono L1) J1 x) (hs env)
  have hna : ∀ o, Pr it = some o → ∃ vs, o.data = .fields vs := fun o e => by rw [hn] at e; cases e
  refine codeAny_forLoop (FoI cx A env x b r G K Pr g it) ?_ l.length
    ⟨rfl, k, Wk.refl.set hn, L1, hf.set hna, (F.mono L1).ext (set_keep hna), J1, setPr_self, O⟩
  rintro n s2 @⟨l, P2, g2, σ2, ma2, o2, rfl, k2, W2, L2, S2, F2, J2, hp2, O2⟩
  refine it_next S2.2.2.1 J2 hp2 O2 (fun e h' J3 => ?_) fun a l' v o' h' tk e va O3 J3 => ?_
  · subst e
    exact wpAny_execs_nil (q (delPr P2 it) g2 σ2 _ .next ma2 .next k2 (W2.del hn) L2 (F2.ext (del_keep hp2 O2.fields)) J3 trivial)
  · subst e
    have hfi : ∀ o, P2 it = some o → ∃ vs, o.data = .fields vs := fun o e => by rw [hp2] at e; cases e; exact O2.fields
    have F3 := F2.ext (set_keep (o₁ := o') hfi)
    refine wpAny_assign_Name (k2 A env G (setPr P2 it o') σ2 g2 _ v _ _ F3 J3 va fun P4 s4 ma4 k4 st4 F4 J4 => ?_)
    have S4 := (S2.set (o := o') hfi).step st4
    have hp4 : P4 it = some o' := (st4.1 it (it_apart F3 setPr_self O3.fields) (cell_apart F3 setPr_self O3.fields)).trans setPr_self
    refine wpAny_mono (k4 A env P4 g2 s4 (fun f s₃ => match f with
      | Flow.next => ∃ m, m < (a :: l').length ∧ FoI cx A env x b r G K Pr g it m s₃
      | Flow.cont => ∃ m, m < (a :: l').length ∧ FoI cx A env x b r G K Pr g it m s₃
      | Flow.brk => Q .next s₃
      | Flow.ret v => Q (.ret v) s₃) (fun _ _ => False) hr S4 F4 J4 (fun P5 g5 σ5 s5 o ma5 f k5 st5 L5 F5 J5 fl => ?_) fun _ _ _ _ _ _ ke => ke.elim) (fun f s₃ z => by cases f <;> exact z) fun _ _ z => z.elim
    have hp5 : P5 it = some o' := (st5.1 it (it_apart F4 hp4 O3.fields) (cell_apart F4 hp4 O3.fields)).trans hp4
    have W5 := ((W2.set (o := o') hn).step st4).step st5
    have stop : ∀ {P g' σ' s' ma'}, Wk env it Pr P → g.le g' → Fm cx env G ma' P g' → Inv cx P σ' g' s' → P it = some o' → PrStep env Pr (delPr P it) ∧ Fm cx env G ma' (delPr P it) g' ∧ Inv cx (delPr P it) σ' g' s' := fun W L F J hp =>
      ⟨W.del hn, F.ext (del_keep hp O3.fields), J.sub fun b o e => by
        by_cases z : b = it
        · rw [z] at e; simp [delPr] at e
        · rw [delPr_ne z] at e; exact e⟩
    cases o <;> cases f <;> simp only [FlowR] at fl
    · exact ⟨l'.length, Nat.lt_succ_self _, rfl, k5, W5, L2.trans L5, S4.step st5, F5, J5, hp5, O3.mono L5⟩
    · obtain ⟨a1, a2, a3⟩ := stop W5 (L2.trans L5) F5 J5 hp5
      exact q _ g5 σ5 s5 .next ma5 .next k5 a1 (L2.trans L5) a2 a3 trivial
    · exact ⟨l'.length, Nat.lt_succ_self _, rfl, k5, W5, L2.trans L5, S4.step st5, F5, J5, hp5, O3.mono L5⟩
    · obtain ⟨a1, a2, a3⟩ := stop W5 (L2.trans L5) F5 J5 hp5
      exact q _ g5 σ5 s5 _ ma5 _ k5 a1 (L2.trans L5) a2 a3 fl
end
end Mine
end
section
open PySem PySem.W PySem.Spec PySem.SeqAt PySem.Calls PyProof.Rows
set_option Elab.async false
namespace Mine
noncomputable def frees (cells : List (Str × Addr)) : List (Str × NameKind) → List (Str × Addr) → List (Str × Addr)
  | [], acc => acc
  | (n, k) :: r, acc => if k == .free then frees cells r ((n, (cells.lookup n).getD 0) :: acc) else frees cells r acc
theorem frees_go {env : Env} (f : Str × NameKind → List (Str × Addr) → Sem (ForInStep (List (Str × Addr))))
    (hf : ∀ n k cs, f (n, k) cs = if k == .free then (do let a ← cellOf env n; pure (.yield ((n, a) :: cs))) else pure (.yield cs)) :
    ∀ (names : List (Str × NameKind)) (acc : List (Str × Addr)), (∀ p ∈ names, p.2 = .free → ∃ c, env.cells.lookup p.1 = some c) → forIn names acc f = (pure (frees env.cells names acc) : Sem _)
  | [], acc, _ => by rw [List.forIn_nil]; rfl
  | (n, k) :: r, acc, h => by
    rw [List.forIn_cons, hf]
    unfold frees
    by_cases hk : (k == NameKind.free) = true
    · rw [if_pos hk, if_pos hk]
      obtain ⟨c, hc⟩ := h (n, k) List.mem_cons_self (beq_iff_eq.mp hk)
      have : cellOf env n = pure c := by unfold cellOf; rw [hc]
      rw [this, hc]
      simp only [pure_bind, Option.getD_some]
      exact frees_go f hf r _ fun p hp => h p (List.mem_cons_of_mem _ hp)
    · rw [if_neg hk, if_neg hk]
      simp only [pure_bind]
      exact frees_go f hf r _ fun p hp => h p (List.mem_cons_of_mem _ hp)
theorem closure_of {env : Env} {scope : Scope} (h : ∀ p ∈ scope.names, p.2 = .free → ∃ c, env.cells.lookup p.1 = some c) : closureFor scope env = pure (frees env.cells scope.names []) := by
  simp only [closureFor]
  rw [frees_go (env := env) _ (fun n k cs => by cases k <;> rfl) scope.names [] h]
  exact pure_bind _ _
theorem frees_all {cells : List (Str × Addr)} : ∀ (names : List (Str × NameKind)) (acc : List (Str × Addr)), (∀ p ∈ names, p.2 = .free → ∃ c, cells.lookup p.1 = some c) → (∀ p ∈ acc, cells.lookup p.1 = some p.2) →
    ∀ p ∈ frees cells names acc, cells.lookup p.1 = some p.2
  | [], acc, _, h2 => h2
  | (n, k) :: r, acc, h1, h2 => by
    unfold frees
    by_cases hk : (k == NameKind.free) = true
    · rw [if_pos hk]
      obtain ⟨c, hc⟩ := h1 (n, k) List.mem_cons_self (beq_iff_eq.mp hk)
      refine frees_all r _ (fun p hp => h1 p (List.mem_cons_of_mem _ hp)) fun p hp => ?_
      rcases List.mem_cons.mp hp with rfl | hp
      · show cells.lookup n = some ((cells.lookup n).getD 0)
        rw [show cells.lookup n = some c from hc]; rfl
      · exact h2 p hp
    · rw [if_neg hk]
      exact frees_all r _ (fun p hp => h1 p (List.mem_cons_of_mem _ hp)) h2
theorem frees_acc {cells : List (Str × Addr)} : ∀ (names : List (Str × NameKind)) (acc : List (Str × Addr)) (p : Str × Addr), p ∈ acc → p ∈ frees cells names acc
  | [], _, _, h => h
  | (n, k) :: r, acc, p, h => by
    unfold frees
    split
    · exact frees_acc r _ p (List.mem_cons_of_mem _ h)
    · exact frees_acc r _ p h
theorem frees_mem {cells : List (Str × Addr)} : ∀ (names : List (Str × NameKind)) (acc : List (Str × Addr)) (y : Str), (y, NameKind.free) ∈ names → ∃ c, (y, c) ∈ frees cells names acc
  | (n, k) :: r, acc, y, h => by
    unfold frees
    rcases List.mem_cons.mp h with e | h
    · cases e
      rw [if_pos (by rfl)]
      exact ⟨_, frees_acc r _ _ List.mem_cons_self⟩
    · split
      · exact frees_mem r _ y h
      · exact frees_mem r _ y h
noncomputable def relab (nm names : List (Str × NameKind)) : List (Str × NameKind) := names.map fun (n, k) => if (k == .free && nm.lookup n == some .cell) then (n, .cell) else (n, k)
noncomputable def okComp (nm names : List (Str × NameKind)) (x : Str) (cap gs : List Str) : Bool :=
  names.all (fun p => !(p.2 == .cell) && (!(p.2 == .local) || names.lookup p.1 == some .local) && (!(p.2 == .free) || cap.contains p.1)) && (names.lookup x == some .local) && !(x == ("__debug__" : Str)) && decide (x :: cap).Nodup &&
  cap.all (fun y => nm.lookup y == some .cell && (relab nm names).lookup y == some .cell && names.contains (y, .free)) && gs.all (fun y => (relab nm names).lookup y == some .globalImplicit && !(y == ("__debug__" : Str)))
structure OkComp (nm names : List (Str × NameKind)) (x : Str) (cap gs : List Str) : Prop where
  nocell : ∀ p ∈ names, p.2 ≠ .cell
  loc : ∀ p ∈ names, p.2 = .local → names.lookup p.1 = some .local
  fr : ∀ p ∈ names, p.2 = .free → p.1 ∈ cap
  hx : names.lookup x = some .local
  dbg : (x == ("__debug__" : Str)) = false
  nd : (x :: cap).Nodup
  cap : ∀ y ∈ cap, nm.lookup y = some .cell ∧ (relab nm names).lookup y = some .cell ∧ (y, NameKind.free) ∈ names
  gl : ∀ y ∈ gs, (relab nm names).lookup y = some .globalImplicit ∧ (y == ("__debug__" : Str)) = false
theorem okComp_of {nm names : List (Str × NameKind)} {x : Str} {cap gs : List Str} (h : okComp nm names x cap gs = true) : OkComp nm names x cap gs := by
  unfold okComp at h
  simp only [Bool.and_eq_true, List.all_eq_true, Bool.or_eq_true, Bool.not_eq_true', beq_iff_eq, beq_eq_false_iff_ne, List.contains_iff_mem, decide_eq_true_eq] at h
  obtain ⟨⟨⟨⟨⟨h1, h2⟩, h3⟩, h4⟩, h5⟩, h6⟩ := h
  exact ⟨fun p hp => (h1 p hp).1.1, fun p hp e => (h1 p hp).1.2.resolve_left fun z => z e, fun p hp e => (h1 p hp).2.resolve_left fun z => z e, h2, beq_eq_false_iff_ne.mpr h3, h4, fun y hy => ⟨(h5 y hy).1.1, (h5 y hy).1.2, (h5 y hy).2⟩, fun y hy => ⟨(h6 y hy).1, beq_eq_false_iff_ne.mpr (h6 y hy).2⟩⟩
inductive Caps : Loc → Loc → Prop
  | nil {ma} : Caps [] ma
  | cons {x a c ma} : Lk x a ma → Caps c ma → Caps ((x, a) :: c) ma
theorem Caps.all : ∀ {c ma : Loc}, Caps c ma → ∀ e ∈ c, e ∈ ma
  | _, _, .cons h t, e, he => by
    rcases List.mem_cons.mp he with rfl | he
    · exact h.mem
    · exact t.all e he
noncomputable def IfTo (cx : Cx) (r : Nat) (G : Glo) (ifs : List Expr) (ma : Loc) (σ : Sig) (K : Bool → Sig → Prop) : Prop := match ifs with
  | [] => K true σ
  | [t] => TsTo cx r G NoE t ma σ K
  | _ => False
noncomputable def CpTo (cx : Cx) (x : Str) (elt : Expr) (ifs : List Expr) (r : Nat) (G : Glo) (cap : Loc) (K : List AV → Sig → Prop) : List AV → List AV → Sig → Prop
  | [], acc, σ => K acc σ
  | a :: l, acc, σ => IfTo cx r G ifs ((x, a) :: cap) σ (fun z σ1 => Ways z (EvTo cx r G NoE elt ((x, a) :: cap) σ1 (fun av σ2 => CpTo cx x elt ifs r G cap K l (acc ++ [av]) σ2)) (CpTo cx x elt ifs r G cap K l acc σ1))
section
variable {cx : Cx} {r : Nat} {G : Glo} {KE : Sig → Prop} {Pr : Addr → Option Obj} {g : Gh} {s : Shared} {ma : Loc} {σ : Sig}
theorem Inv.freeze (I : Inv cx Pr σ g s) {D : Addr} {o : Obj} (hp : Pr D = some o) : g.le (g.add s.heap [D]) ∧ Inv cx (delPr Pr D) σ (g.add s.heap [D]) s ∧ ∀ o', s.heap.get? D = some o' → (g.add s.heap [D]).Z.get? D = some o' := by
  have L : g.le (g.add s.heap [D]) := ⟨fun b o e => g.add_get (I.zle b o e) (.inl (by rw [e]; rfl)), fun _ _ e => e⟩
  obtain ⟨az, av, _⟩ := I.pr _ _ hp
  refine ⟨L, ?_, fun o' e => g.add_get e (.inr List.mem_cons_self)⟩
  exact
  { zle := fun b o e => (g.of_add e).1
    base := fun b o e => L.z b o (I.base b o e)
    pr := fun b o e => by
      have n : b ≠ D := fun q => by rw [q] at e; simp [delPr] at e
      rw [delPr_ne n] at e
      obtain ⟨a, v, r⟩ := I.pr b o e
      exact ⟨g.add_none a fun q => n (List.mem_singleton.mp q), v, r⟩
    sg := fun e he => by
      obtain ⟨a, b, v, vs, r, n, q⟩ := I.sg e he
      have ne : e.1 ≠ D := fun z => by rw [z, hp] at b; cases b
      exact ⟨g.add_none a fun q => ne (List.mem_singleton.mp q), by rw [delPr_ne ne]; exact b, v, vs, r.mono L, n, q⟩
    nd := I.nd
    vd := fun d kv iv e => by
      obtain ⟨a, r⟩ := I.vd d kv iv e
      have e' : g.V d = some (kv, iv) := e
      exact ⟨g.add_none a fun q => (by rw [List.mem_singleton.mp q, av] at e'; cases e'), r⟩
    gens := I.gens, os := I.os, dr := I.dr }
theorem comp_env {env : Env} {scope : Scope} {gl' cap : Loc} {x : Str} {a : AV} {v : Value} {C : Addr} {oC : Obj} {m : Str → Option Value} {P : Addr → Option Obj} (F : Fm cx env G ma P g) (hk : scope.kind = .function)
    (ok : OkComp G.nm scope.names x (cap.map (·.1)) (gl'.map (·.1))) (hcap : Caps cap ma) (hgl : GS cx gl') (hbase : ∀ b o, cx.S0.heap.get? b = some o → g.Z.get? b = some o) (hC : P C = some oC) (hO : NsO oC m) (hm : m x = some v) (va : VR cx g a v) :
    Fm cx (compEnvC scope (frees env.cells scope.names []) C env) ⟨gl', relab G.nm scope.names⟩ ((x, a) :: cap) P g := by
  have hnm : ∀ y, (compEnvC scope (frees env.cells scope.names []) C env).kindOf y = (relab G.nm scope.names).lookup y := fun y => by
    show (relabel scope env).names.lookup y = _
    unfold relabel relab
    simp only [F.kind, F.nm, beq_self_eq_true, Bool.and_true]
  have hfree : ∀ p ∈ scope.names, p.2 = .free → ∃ c, env.cells.lookup p.1 = some c := fun p hp e => by
    obtain ⟨q, hq, e'⟩ := List.mem_map.mp (ok.fr p hp e)
    obtain ⟨oL, m', _, _, hv⟩ := F.loc
    obtain ⟨_, ov, sl, _⟩ := hv q (hcap.all q hq)
    have hcell := (ok.cap q.1 (List.mem_map_of_mem hq)).1
    have hkq : env.kindOf q.1 = some .cell := (F.nm _).trans hcell
    cases sl with
    | loc h => rw [hkq] at h; cases h
    | cell _ h => exact ⟨_, e' ▸ h⟩
    | free h => rw [hkq] at h; cases h
  have hall := frees_all (cells := env.cells) scope.names [] hfree (fun _ h => nomatch h)
  have hin : ∀ y c, (frees env.cells scope.names []).lookup y = some c → env.cells.lookup y = some c := fun y c e => hall (y, c) (mem_of_lookup e)
  exact
  { kind := hk
    glob := F.glob
    blt := F.blt
    loc := ⟨oC, m, hC, hO, fun e he => by
      rcases List.mem_cons.mp he with rfl | he
      · exact ⟨ok.dbg, some v, .loc ((hnm x).trans (lookup_rl ok.hx)) hm, .inr ⟨v, rfl, va⟩⟩
      · obtain ⟨oL, m', _, _, hv⟩ := F.loc
        obtain ⟨hd, ov, sl, hov⟩ := hv e (hcap.all e he)
        obtain ⟨hcell, hrc, hfr⟩ := ok.cap e.1 (List.mem_map_of_mem he)
        have hke : env.kindOf e.1 = some .cell := (F.nm _).trans hcell
        refine ⟨hd, ov, ?_, hov⟩
        cases sl with
        | loc h => rw [hke] at h; cases h
        | free h => rw [hke] at h; cases h
        | @cell c o _ h2 h3 h4 =>
          refine .cell ((hnm _).trans hrc) ?_ h3 h4
          obtain ⟨c', hc'⟩ := frees_mem (cells := env.cells) scope.names [] e.1 hfr
          obtain ⟨c2, hc2⟩ := Option.isSome_iff_exists.mp (lookup_of_mem hc')
          have := hin _ _ hc2
          rw [h2] at this; cases this
          exact hc2⟩
    nd := ok.nd
    cinj := fun y z c hy hz => F.cinj y z c (hin y c hy) (hin z c hz)
    cl := fun y c hy => F.cl y c (hin y c hy)
    nm := hnm
    gl := fun e he => by
      obtain ⟨h1, h2⟩ := ok.gl e.1 (List.mem_map_of_mem he)
      exact ⟨(hnm _).trans h1, h2, hgl.all e he g hbase⟩ }
where lookup_rl {nm : List (Str × NameKind)} : ∀ {names : List (Str × NameKind)} {x : Str}, names.lookup x = some .local → (relab nm names).lookup x = some .local
  | (n, k) :: r, x, h => by
    have ih := @lookup_rl nm r x
    show List.lookup x ((if (k == NameKind.free && nm.lookup n == some .cell) = true then (n, NameKind.cell) else (n, k)) :: relab nm r) = _
    cases hx : x == n with
    | true =>
      simp only [List.lookup_cons, hx] at h
      cases h
      simp [List.lookup_cons, hx]
    | false =>
      simp only [List.lookup_cons, hx] at h
      by_cases hc : (k == NameKind.free && nm.lookup n == some .cell) = true
      · rw [if_pos hc]; simp only [List.lookup_cons, hx]; exact ih h
      · rw [if_neg hc]; simp only [List.lookup_cons, hx]; exact ih h
end
end Mine
end
section
open PySem PySem.W PySem.Spec PySem.SeqAt PySem.Calls PyProof.Rows
set_option Elab.async false
namespace Mine
section
variable {cx : Cx} {r : Nat} {G : Glo} {KE : Sig → Prop} {Pr : Addr → Option Obj} {g : Gh} {s : Shared} {ma : Loc} {σ : Sig}
theorem if_run {A : Around} {env : Env} {ifs : List Expr} {K : Bool → Sig → Prop} {Q : Bool → Shared → Prop} {E : Value → Shared → Prop} (h : IfTo cx r G ifs ma σ K) (hr : Room r A) (hf : FrOK A Pr) (F : Fm cx env G ma Pr g) (J : Inv cx Pr σ g s)
    (q : ∀ g' σ' s' b, K b σ' → g.le g' → Inv cx Pr σ' g' s' → Q b s') :
    wpAny (model cx.prog cx.w) A (forIn ifs true fun c r => if r = true then do let ok ← isTrue c env (eval c env); pure (ForInStep.yield ok) else pure (ForInStep.yield r)) Q E s := by
  match ifs, h with
  | [], h => exact wpAny_pure (q g σ s _ h (.refl g) J)
  | [t], h =>
    rw [List.forIn_cons, if_pos rfl]
    refine wpAny_bind (wpAny_bind (h A env Pr g s _ E hr hf F J (fun g1 σ1 s1 b k1 L1 J1 => wpAny_pure ?_) fun _ _ _ _ ke => ke.elim))
    exact wpAny_pure (q g1 σ1 s1 b k1 L1 J1)
inductive CpI (cx : Cx) (x : Str) (elt : Expr) (ifs : List Expr) (r : Nat) (G' : Glo) (cap : Loc) (K : List AV → Sig → Prop) (Pr : Addr → Option Obj) (g : Gh) (it C D : Addr) (n : Nat) (s' : Shared) : Prop
  | mk {l : List AV} {Pc : Addr → Option Obj} {g2 : Gh} {σ2 : Sig} {acc : List AV} {o oC : Obj} {vs : Array Value} {nn : Nat} {m : Str → Option Value} (e : l.length = n) (z : acc.length + l.length ≤ 1000) (k : CpTo cx x elt ifs r G' cap K l acc σ2) (L : g.le g2) (J : Inv cx Pc σ2 g2 s')
    (p1 : Pc it = some o) (O : ItO cx g2 o l) (p2 : Pc D = some { cls := .type "list", data := .seq vs nn }) (rs : VRs cx g2 acc vs.toList) (p3 : Pc C = some oC) (N : NsO oC m) (po : ∀ b, b ≠ it → b ≠ C → b ≠ D → Pc b = Pr b) : CpI cx x elt ifs r G' cap K Pr g it C D n s'
theorem comp_core {A : Around} {env : Env} {it : Addr} {o : Obj} {l : List AV} {elt iter : Expr} {x : Str} {px pos : Pos} {ifs : List Expr} {scope : Scope} {E : Value → Shared → Prop} {RR : Value → Addr → Result → Shared → Prop} {K : List AV → Sig → Prop} {cap gl' : Loc}
    (hr : Room r A) (hf : FrOK A Pr) (F : Fm cx env G ma Pr g) (J : Inv cx (setPr Pr it o) σ g s) (hn : Pr it = none) (O : ItO cx g o l) (hlen : l.length ≤ 1000) (hk : scope.kind = .function)
    (ok : OkComp G.nm scope.names x (cap.map (·.1)) (gl'.map (·.1))) (hcap : Caps cap ma) (hgl : GS cx gl') (k : CpTo cx x elt ifs r ⟨gl', relab G.nm scope.names⟩ cap K l [] σ)
    (hRR : ∀ g' σ' s' acc D C oC vs n m, K acc σ' → g.le g' → Pr C = none → NsO oC m → Inv cx (setPr Pr C oC) σ' g' s' → g'.Z.get? D = some { cls := .type "list", data := .seq vs n } → VRs cx g' acc vs.toList → RR (.ref D) C (.ok .next) s') :
    wpAny (model cx.prog cx.w) A (newList []) (fun acc s₃ => wpAny (model cx.prog cx.w) A (newFunctionEnv scope env.globals (frees env.cells scope.names []) [] env.qual none .none (some env)) (fun cenv s₄ =>
      codeAny (model cx.prog cx.w) A (.compStart (.ListComp elt [⟨.Name x px, iter, ifs, 0⟩] scope pos) 0 (.ref it) acc { cenv with scope := relabel scope env }) (RR acc cenv.locals) s₄) E s₃) E s := by
  refine wpAny_newObj_type (wpAny_newFunctionEnv ok.nocell (by intro y hy; simp at hy) (fun h₁ hns₁ hsb₁ => ?_) hk)
  dsimp only at hns₁ hsb₁ ⊢
  generalize hH2 : s.heap.push { cls := .type "list", dict := none, data := .seq ([] : List Value).toArray } = H2 at hns₁ hsb₁ ⊢
  have hC : H2.objs.size = s.heap.objs.size + 1 := by rw [← hH2, Heap.size_push]
  generalize hDe : s.heap.objs.size = D at hC ⊢
  generalize hCe : H2.objs.size = C at hC hns₁ hsb₁ ⊢
  have hDC : D ≠ C := by rw [hC]; exact Nat.ne_of_lt (Nat.lt_succ_self _)
  have frD : s.heap.get? D = none := get_none_of_size (Nat.le_of_eq hDe)
  have frC : s.heap.get? C = none := get_none_of_size (by omega)
  have old : ∀ b o, s.heap.get? b = some o → h₁.get? b = some o := fun b o e =>
    hsb₁.extBut b o (fun z => by rw [z, frC] at e; cases e) (Heap.get?_push_of_some _ (hH2 ▸ Heap.get?_push_of_some _ e))
  have hD1 : h₁.get? D = some { cls := .type "list", dict := none, data := .seq ([] : List Value).toArray } := hsb₁.extBut _ _ hDC (Heap.get?_push_of_some _ (by rw [← hH2, ← hDe]; exact Heap.get?_push_size _ rfl))
  obtain ⟨oC, hoC, hNC⟩ := ns_split hns₁
  have J1 := (J.tell1 s.toks old frD hD1)
  have J2 : Inv cx (setPr (setPr (setPr Pr it o) D { cls := .type "list", dict := none, data := .seq ([] : List Value).toArray }) C oC) σ g { s with heap := h₁, toks := s.toks + ([] : List (Str × Value)).length } :=
    (J.tell (as := [D, C]) (s.toks + ([] : List (Str × Value)).length) old fun b hb => by
      rcases List.mem_cons.mp hb with rfl | hb
      · exact frD
      · rw [List.mem_singleton.mp hb]; exact frC).prEq fun b => by
        by_cases q1 : b = C
        · subst q1; simp [setPr, hoC]
        · by_cases q2 : b = D
          · subst q2; simp [setPr, hD1, q1]
          · simp [setPr, q1, q2]
  have hitn : ∀ {b}, s.heap.get? b = none → b ≠ it := fun e z => by rw [z, at_it J setPr_self O.nd] at e; cases e
  have hDit := hitn frD
  have hCit := hitn frC
  have pD : Pr D = none := by have := J.p_fresh frD; rwa [setPr_ne hDit] at this
  have pC : Pr C = none := by have := J.p_fresh frC; rwa [setPr_ne hCit] at this
  have hx := OkComp.hx ok
  have loop : codeAny (model cx.prog cx.w) A (.compLoop (.ListComp elt [⟨.Name x px, iter, ifs, 0⟩] scope pos) 0 (.ref it) (.ref D) (compEnvC scope (frees env.cells scope.names []) C env)) (RR (.ref D) C)
      { s with heap := h₁, toks := s.toks + ([] : List (Str × Value)).length } := by
    refine codeAny_compLoop_tests (CpI cx x elt ifs r ⟨gl', relab G.nm scope.names⟩ cap K Pr g it C D) ?_ l.length
      ⟨rfl, (by simpa using hlen : ([] : List AV).length + l.length ≤ 1000), k, .refl g, J2, by rw [setPr_ne (Ne.symm hCit), setPr_ne (Ne.symm hDit)]; exact setPr_self, O, by rw [setPr_ne hDC]; exact setPr_self, .nil, setPr_self, hNC,
        fun b b1 b2 b3 => by rw [setPr_ne b2, setPr_ne b3, setPr_ne b1]⟩
    rintro n s' @⟨l, Pc, g2, σ2, acc, o2, oC2, vs, nn, m, rfl, hsz, k2, L2, K2, p1, O2, p2, rs, p3, N2, po⟩
    refine it_next hf.1 K2 p1 O2 (fun e h' K3 => ?_) fun a l' v o' h' tk e va O3 K3 => ?_
    · subst e
      have p2' : delPr Pc it D = some { cls := .type "list", data := .seq vs nn } := by rw [delPr_ne hDit]; exact p2
      obtain ⟨L4, K4, hz⟩ := K3.freeze p2'
      have q := at_it K3 p2' fun es n z => nomatch z
      refine hRR _ σ2 _ acc D C oC2 vs nn m k2 (L2.trans L4) pC N2 (K4.prEq fun b => ?_) (hz _ q) (rs.mono L4)
      by_cases b1 : b = D
      · subst b1; simp [delPr, setPr, hDC, pD]
      · rw [delPr_ne b1]
        by_cases b2 : b = it
        · subst b2; simp [delPr, setPr, Ne.symm hCit, hn]
        · rw [delPr_ne b2]
          by_cases b3 : b = C
          · subst b3; rw [p3, setPr_self]
          · rw [setPr_ne b3]; exact po b b2 b3 b1
    · subst e
      have hxk : (compEnvC scope (frees env.cells scope.names []) C env).kindOf x = some .local := lookup_relabel_local hx
      have pC3 : setPr Pc it o' C = some oC2 := by rw [setPr_ne hCit]; exact p3
      obtain ⟨_, _, slC, _, qC⟩ := K3.pr _ _ pC3
      refine wpAny_assign_Name (wpAny_storeName_local (env := compEnvC scope (frees env.cells scope.names []) C env) hxk (N2.at qC) (fun h4 hn4 hs4 => ?_) (by show (scope.kind == _ || (scope.kind == _ && _)) = false; rw [hk]; rfl))
      obtain ⟨oC4, hoC4, N4⟩ := ns_split hn4
      have K4 := K3.setObj pC3 (tk + 1) hs4 hoC4
      generalize hP4 : setPr (setPr Pc it o') C oC4 = P4 at K4
      have P4D : P4 D = some { cls := .type "list", data := .seq vs nn } := by rw [← hP4, setPr_ne hDC, setPr_ne hDit]; exact p2
      have P4C : P4 C = some oC4 := by rw [← hP4]; exact setPr_self
      have P4i : P4 it = some o' := by rw [← hP4, setPr_ne (Ne.symm hCit)]; exact setPr_self
      have P4o : ∀ b, b ≠ it → b ≠ C → b ≠ D → P4 b = Pr b := fun b b1 b2 b3 => by rw [← hP4, setPr_ne b2, setPr_ne b1]; exact po b b1 b2 b3
      have keep : ∀ b o, Pr b = some o → P4 b = some o := fun b o e => by
        rw [P4o b (fun z => by rw [z, hn] at e; cases e) (fun z => by rw [z, pC] at e; cases e) fun z => by rw [z, pD] at e; cases e]; exact e
      have F4 := comp_env (C := C) (a := a) (v := v) ((F.mono L2).ext fun b o e _ => keep b o e) hk ok hcap hgl K4.base P4C N4 (if_pos rfl) va
      have hf4 := hf.ext fun b o e _ => keep b o e
      refine if_run k2 hr hf4 F4 K4 fun g5 σ5 s5 z k5 L5 K5 => ?_
      cases z with
      | false =>
        simp only [Bool.false_eq_true, if_false]
        exact ⟨l'.length, Nat.lt_succ_self _, rfl, (by simp at hsz; omega : acc.length + l'.length ≤ 1000), k5.2 rfl, L2.trans L5, K5, P4i, O3.mono L5, P4D, rs.mono L5, P4C, N4, P4o⟩
      | true =>
        simp only [if_true]
        refine k5.1 rfl A _ P4 g5 s5 _ _ hr hf4 (F4.mono L5) K5 (fun g6 σ6 s6 av w k6 L6 K6 v6 => ?_) fun _ _ _ _ ke => ke.elim
        have qD := at_it K6 P4D fun es n z => nomatch z
        have rs6 := rs.mono (L5.trans L6)
        refine wpAny_list_append_plain (items := vs) ⟨nn, qD⟩ (fun h7 hl7 hs7 => ?_) (by rw [rs6.size]; exact le_line (by simp at hsz; omega))
        obtain ⟨n7, hoD7⟩ := hl7
        have K7 := K6.setObj P4D s6.toks hs7 hoD7
        exact ⟨l'.length, Nat.lt_succ_self _, rfl, (by simp at hsz ⊢; omega : (acc ++ [av]).length + l'.length ≤ 1000), k6, L2.trans (L5.trans L6), K7, by rw [setPr_ne (Ne.symm hDit)]; exact P4i, O3.mono (L5.trans L6), setPr_self,
          by simpa using rs6.snoc v6, by rw [setPr_ne (Ne.symm hDC)]; exact P4C, N4, fun b b1 b2 b3 => by rw [setPr_ne b3]; exact P4o b b1 b2 b3⟩
  exact codeAny_compStart_list loop (it_self J2 (by rw [setPr_ne (Ne.symm hCit), setPr_ne (Ne.symm hDit)]; exact setPr_self) O loop)
theorem free_cells {env : Env} {scope : Scope} {cap gl' : Loc} {x : Str} {P : Addr → Option Obj} (F : Fm cx env G ma P g) (ok : OkComp G.nm scope.names x (cap.map (·.1)) (gl'.map (·.1))) (hcap : Caps cap ma) :
    ∀ p ∈ scope.names, p.2 = .free → ∃ c, env.cells.lookup p.1 = some c := fun p hp e => by
  obtain ⟨q, hq, e'⟩ := List.mem_map.mp (ok.fr p hp e)
  obtain ⟨oL, m', _, _, hv⟩ := F.loc
  obtain ⟨_, ov, sl, _⟩ := hv q (hcap.all q hq)
  have hkq : env.kindOf q.1 = some .cell := (F.nm _).trans (ok.cap q.1 (List.mem_map_of_mem hq)).1
  cases sl with
  | loc h => rw [hkq] at h; cases h
  | cell _ h => exact ⟨_, e' ▸ h⟩
  | free h => rw [hkq] at h; cases h
theorem ev_comp_x {elt iter : Expr} {x : Str} {px pos : Pos} {ifs : List Expr} {scope : Scope} {K : AV → Sig → Prop} {K0 : List AV → Sig → Prop} {cap gl' : Loc} (hk : scope.kind = .function) (hs : ∀ env v, foldedSetIterable iter env v = pure v)
    (hok : okComp G.nm scope.names x (cap.map (·.1)) (gl'.map (·.1)) = true) (hcap : Caps cap ma) (hgl : GS cx gl')
    (hv : ∀ acc σ', K0 acc σ' → ∃ av, K av σ' ∧ ∀ g' D vs n, g'.Z.get? D = some { cls := .type "list", data := .seq vs n } → VRs cx g' acc vs.toList → VR cx g' av (.ref D))
    (h : IeTo cx r G KE iter ma σ (fun l σ1 => l.length ≤ 1000 ∧ CpTo cx x elt ifs r ⟨gl', relab G.nm scope.names⟩ cap K0 l [] σ1)) : EvTo cx r G KE (.ListComp elt [⟨.Name x px, iter, ifs, 0⟩] scope pos) ma σ K := by
  intro A env Pr g s Q E hr hf F J q qe
  have ok := okComp_of hok
  have hfree : ∀ p ∈ scope.names, p.2 = .free → ∃ c, env.cells.lookup p.1 = some c := free_cells F ok hcap
  rw [eval_ListComp]
  refine wpAny_comprehension_free (use := none) rfl (hs env) (closure_of hfree) hk ok.loc (h A env Pr g s _ E hr hf F J (fun g1 σ1 s1 it o l k1 L1 hn J1 O => ?_) qe)
  refine comp_core (RR := fun acc C => compPost (model cx.prog cx.w) A E none Q acc C) hr hf (F.mono L1) J1 hn O k1.1 hk ok hcap hgl k1.2 fun g2 σ2 s2 acc D C oC vs n m k2 L2 pC N2 J2 hz rs => ?_
  obtain ⟨_, _, sl, _, qC⟩ := J2.pr _ _ setPr_self
  refine ⟨m, N2.at qC, fun h' hs' => ?_⟩
  obtain ⟨av, kav, hav⟩ := hv acc σ2 k2
  exact q g2 σ2 _ av _ kav (L1.trans L2) ((J2.outOf setPr_self s2.toks hs'.extBut).prEq fun b => by
    by_cases z : b = C
    · subst z; simp [delPr, pC]
    · rw [delPr_ne z, setPr_ne z]) (hav _ _ _ _ hz rs)
theorem ev_comp_d {elt iter : Expr} {x : Str} {px pos : Pos} {ifs : List Expr} {scope : Scope} {K : AV → Sig → Prop} {cap gl' : Loc} (hk : scope.kind = .function) (hs : ∀ env v, foldedSetIterable iter env v = pure v)
    (hok : okComp G.nm scope.names x (cap.map (·.1)) (gl'.map (·.1)) = true) (hcap : Caps cap ma) (hgl : GS cx gl')
    (h : IeTo cx r G KE iter ma σ (fun l σ1 => l.length ≤ 1000 ∧ CpTo cx x elt ifs r ⟨gl', relab G.nm scope.names⟩ cap (fun acc σ2 => ∃ ps, unD acc = some ps ∧ K (.d (.list ps)) σ2) l [] σ1)) : EvTo cx r G KE (.ListComp elt [⟨.Name x px, iter, ifs, 0⟩] scope pos) ma σ K :=
  ev_comp_x hk hs hok hcap hgl (fun acc σ' ⟨ps, hd, k⟩ => ⟨_, k, fun g' D vs n hz rs => by
    rw [unD_eq hd] at rs
    obtain ⟨as, ra⟩ := reads_all rs
    exact .d (.list hz rfl rfl ra)⟩) h
theorem ev_comp_f {elt iter : Expr} {x : Str} {px pos : Pos} {ifs : List Expr} {scope : Scope} {K : AV → Sig → Prop} {cap gl' : Loc} (hk : scope.kind = .function) (hs : ∀ env v, foldedSetIterable iter env v = pure v)
    (hok : okComp G.nm scope.names x (cap.map (·.1)) (gl'.map (·.1)) = true) (hcap : Caps cap ma) (hgl : GS cx gl')
    (h : IeTo cx r G KE iter ma σ (fun l σ1 => l.length ≤ 1000 ∧ CpTo cx x elt ifs r ⟨gl', relab G.nm scope.names⟩ cap (fun acc σ2 => K (.lst acc) σ2) l [] σ1)) : EvTo cx r G KE (.ListComp elt [⟨.Name x px, iter, ifs, 0⟩] scope pos) ma σ K :=
  ev_comp_x hk hs hok hcap hgl (fun acc σ' k => ⟨_, k, fun g' D vs n hz rs => .lst hz rs⟩) h
end
end Mine
end
section
open PySem PySem.W PySem.Spec PySem.SeqAt PySem.Calls PyProof.Rows
set_option Elab.async false
namespace Mine
section
variable {cx : Cx} {r : Nat} {G : Glo} {KE : Sig → Prop} {Pr : Addr → Option Obj} {g : Gh} {s : Shared} {ma : Loc} {σ : Sig}
theorem swaps_comp {env : Env} {elt : Expr} {gens : List Comprehension} {scope : Scope} {pos py spos : Pos} {y : Str} (hk : env.scope.kind = .function) (hy : env.kindOf y = some .local) (hl : (py.line == pos.line) = true)
    (hn : (scope.names.any fun p => p.1 == y && (p.2 == .local || p.2 == .cell)) = false) : swapsWith (.ListComp elt gens scope pos) (some (.Name y py)) spos.line env = pure true := by
  have hb : env.blockKind = .function := by unfold Env.blockKind; rw [hk]; rfl
  unfold swapsWith
  simp only [hb, hy, beq_self_eq_true, Bool.true_and]
  have e1 : (py.line == (Expr.ListComp elt gens scope pos).pos.line) = true := hl
  rw [e1]
  have e2 : (scope.names.any fun (n, k) => n == y && (k == .local || k == .cell)) = false := hn
  simp only [e2, Bool.not_false, Bool.and_self]
theorem ex_comp_x {elt iter : Expr} {x y : Str} {px py pos spos : Pos} {ifs : List Expr} {scope : Scope} {K : Out → Loc → Sig → Prop} {K0 : List AV → Sig → Prop} {cap gl' : Loc} (hk : scope.kind = .function) (hs : ∀ env v, foldedSetIterable iter env v = pure v)
    (hok : okComp G.nm scope.names x (cap.map (·.1)) (gl'.map (·.1)) = true) (hcap : Caps cap ma) (hgl : GS cx gl') (hy : G.nm.lookup y = some .local) (hl : (py.line == pos.line) = true)
    (hnl : (scope.names.any fun p => p.1 == y && (p.2 == .local || p.2 == .cell)) = false)
    (hv : ∀ acc σ', K0 acc σ' → ∃ av, StTo cx y av ma (fun ma1 => K .next ma1 σ') ∧ ∀ g' D vs n, g'.Z.get? D = some { cls := .type "list", data := .seq vs n } → VRs cx g' acc vs.toList → VR cx g' av (.ref D))
    (h : IeTo cx r G KE iter ma σ (fun l σ1 => l.length ≤ 1000 ∧ CpTo cx x elt ifs r ⟨gl', relab G.nm scope.names⟩ cap K0 l [] σ1)) : ExTo cx r G KE (.Assign [.Name y py] (.ListComp elt [⟨.Name x px, iter, ifs, 0⟩] scope pos) spos) ma σ K := by
  intro A env Pr g s Q E hr hf F J q qe
  have ok := okComp_of hok
  have hfree : ∀ p ∈ scope.names, p.2 = .free → ∃ c, env.cells.lookup p.1 = some c := free_cells F ok hcap
  rw [exec_Assign_Name_used _ _ _ _ (swaps_comp F.kind ((F.nm y).trans hy) hl hnl)]
  refine wpAny_bind (wpAny_standAt (wpAny_bind ?_))
  show wpAny _ A (do let _ ← comprehension (.ListComp elt [⟨.Name x px, iter, ifs, 0⟩] scope pos) scope env _ (newList []) false (eval iter env) (some (assign (.Name y py) env))) _ _ s
  refine wpAny_bind (wpAny_mono (wpAny_comprehension_free (use := some (assign (.Name y py) env)) (Q := fun _ s' => Q .next s') rfl (hs env) (closure_of hfree) hk ok.loc
    (h A env Pr g s _ E hr hf.2.2 F J (fun g1 σ1 s1 it o l k1 L1 hn J1 O => ?_) fun g1 σ1 s1 e ke L1 J1 x => qe Pr g1 σ1 s1 e ma ke (.refl _ _) L1 (F.mono L1) J1 x)) (fun _ s' hq => wpAny_pure (wpAny_pure hq)) fun _ _ e => e)
  refine comp_core (RR := fun acc C => compPost (model cx.prog cx.w) A E (some (assign (.Name y py) env)) (fun _ s' => Q .next s') acc C) hr hf.2.2 (F.mono L1) J1 hn O k1.1 hk ok hcap hgl k1.2 fun g2 σ2 s2 acc D C oC vs n m k2 L2 pC N2 J2 hz rs => ?_
  obtain ⟨av, kav, hav⟩ := hv acc σ2 k2
  have keep : ∀ b o, Pr b = some o → setPr Pr C oC b = some o := fun b o e => by rw [setPr_ne (fun z => by rw [z, pC] at e; cases e)]; exact e
  have F2 := (F.mono (L1.trans L2)).ext fun b o e _ => keep b o e
  show wpAny _ A (assign (.Name y py) env (.ref D)) _ _ _
  refine wpAny_assign_Name (kav A env G _ σ2 g2 s2 _ _ _ F2 J2 (hav _ _ _ _ hz rs) fun P3 s3 ma3 k3 st3 F3 J3 => ?_)
  have cL : C ≠ env.locals := fun z => by
    obtain ⟨oL, _, hL, _⟩ := F.loc
    rw [← z, pC] at hL; cases hL
  have cC : ∀ x, env.cells.lookup x ≠ some C := fun x z => by
    obtain ⟨_, _, hL, _⟩ := F.cl x C z
    rw [pC] at hL; cases hL
  have P3C : P3 C = some oC := (st3.1 C cL cC).trans setPr_self
  obtain ⟨_, _, sl, _, qC⟩ := J3.pr _ _ P3C
  refine ⟨m, N2.at qC, fun h' hs' => ?_⟩
  have W : Wk env C Pr P3 := ⟨fun b h1 h2 h3 => (st3.1 b h1 h2).trans (setPr_ne h3), fun b o es n e d => st3.2 b o es n (keep b o e) d⟩
  refine q (delPr P3 C) g2 σ2 _ .next ma3 .next k3 (W.del pC) (L1.trans L2) ?_ (J3.outOf P3C s3.toks hs'.extBut) trivial
  have ne : ∀ {b o}, P3 b = some o → b ≠ C → delPr P3 C b = some o := fun e z => by rw [delPr_ne z]; exact e
  exact
  { F3 with
    loc := by
      obtain ⟨oL, mL, hL, hO, hvv⟩ := F3.loc
      refine ⟨oL, mL, ne hL (Ne.symm cL), hO, fun e he => ?_⟩
      obtain ⟨a, ov, sl, c⟩ := hvv e he
      refine ⟨a, ov, ?_, c⟩
      cases sl with
      | loc h1 h2 => exact .loc h1 h2
      | cell h1 h2 h3 h4 => exact .cell h1 h2 (ne h3 fun z => cC _ (z ▸ h2)) h4
      | free h1 h2 h3 h4 h5 => exact .free h1 h2 h3 (ne h4 fun z => cC _ (z ▸ h3)) h5
    cl := fun z c hz => let ⟨o, ov, a, d⟩ := F3.cl z c hz; ⟨o, ov, ne a fun q => cC z (q ▸ hz), d⟩ }
theorem ex_comp_d {elt iter : Expr} {x y : Str} {px py pos spos : Pos} {ifs : List Expr} {scope : Scope} {K : Out → Loc → Sig → Prop} {cap gl' : Loc} (hk : scope.kind = .function) (hs : ∀ env v, foldedSetIterable iter env v = pure v)
    (hok : okComp G.nm scope.names x (cap.map (·.1)) (gl'.map (·.1)) = true) (hcap : Caps cap ma) (hgl : GS cx gl') (hy : G.nm.lookup y = some .local) (hl : (py.line == pos.line) = true)
    (hnl : (scope.names.any fun p => p.1 == y && (p.2 == .local || p.2 == .cell)) = false)
    (h : IeTo cx r G KE iter ma σ (fun l σ1 => l.length ≤ 1000 ∧ CpTo cx x elt ifs r ⟨gl', relab G.nm scope.names⟩ cap (fun acc σ2 => ∃ ps, unD acc = some ps ∧ StTo cx y (.d (.list ps)) ma (fun ma1 => K .next ma1 σ2)) l [] σ1)) :
    ExTo cx r G KE (.Assign [.Name y py] (.ListComp elt [⟨.Name x px, iter, ifs, 0⟩] scope pos) spos) ma σ K :=
  ex_comp_x hk hs hok hcap hgl hy hl hnl (fun _ _ ⟨ps, hd, k⟩ => ⟨_, k, fun _ _ _ _ hz rs => by
    rw [unD_eq hd] at rs
    obtain ⟨as, ra⟩ := reads_all rs
    exact .d (.list hz rfl rfl ra)⟩) h
theorem ex_comp_f {elt iter : Expr} {x y : Str} {px py pos spos : Pos} {ifs : List Expr} {scope : Scope} {K : Out → Loc → Sig → Prop} {cap gl' : Loc} (hk : scope.kind = .function) (hs : ∀ env v, foldedSetIterable iter env v = pure v)
    (hok : okComp G.nm scope.names x (cap.map (·.1)) (gl'.map (·.1)) = true) (hcap : Caps cap ma) (hgl : GS cx gl') (hy : G.nm.lookup y = some .local) (hl : (py.line == pos.line) = true)
    (hnl : (scope.names.any fun p => p.1 == y && (p.2 == .local || p.2 == .cell)) = false)
    (h : IeTo cx r G KE iter ma σ (fun l σ1 => l.length ≤ 1000 ∧ CpTo cx x elt ifs r ⟨gl', relab G.nm scope.names⟩ cap (fun acc σ2 => StTo cx y (.lst acc) ma (fun ma1 => K .next ma1 σ2)) l [] σ1)) :
    ExTo cx r G KE (.Assign [.Name y py] (.ListComp elt [⟨.Name x px, iter, ifs, 0⟩] scope pos) spos) ma σ K :=
  ex_comp_x hk hs hok hcap hgl hy hl hnl (fun _ _ k => ⟨_, k, fun _ _ _ _ hz rs => .lst hz rs⟩) h
end
end Mine
end
section
open PySem PySem.W PySem.Spec PySem.SeqAt PySem.Calls PyProof.Rows
set_option Elab.async false
namespace Mine
theorem len0 {α : Type} {l : List α} (h : l.length = 0) : l = [] := List.length_eq_zero_iff.mp h
theorem len1 {α : Type} {l : List α} (h : l.length = 1) : ∃ a, l = [a] := List.length_eq_one_iff.mp h
theorem lenS {α : Type} {l : List α} {n : Nat} (h : l.length = n + 1) : ∃ a t, l = a :: t ∧ t.length = n := by
  cases l with
  | nil => cases h
  | cons a t => exact ⟨a, t, rfl, Nat.succ.inj h⟩
theorem len2 {α : Type} {l : List α} (h : l.length = 2) : ∃ a b, l = [a, b] := by
  obtain ⟨a, t, rfl, h'⟩ := lenS h
  obtain ⟨b, rfl⟩ := len1 h'
  exact ⟨a, b, rfl⟩
theorem len3 {α : Type} {l : List α} (h : l.length = 3) : ∃ a b c, l = [a, b, c] := by
  obtain ⟨a, t, rfl, h'⟩ := lenS h
  obtain ⟨b, c, rfl⟩ := len2 h'
  exact ⟨a, b, c, rfl⟩
theorem len4 {α : Type} {l : List α} (h : l.length = 4) : ∃ a b c d, l = [a, b, c, d] := by
  obtain ⟨a, t, rfl, h'⟩ := lenS h
  obtain ⟨b, c, d, rfl⟩ := len3 h'
  exact ⟨a, b, c, d, rfl⟩
theorem len5 {α : Type} {l : List α} (h : l.length = 5) : ∃ a b c d e, l = [a, b, c, d, e] := by
  obtain ⟨a, t, rfl, h'⟩ := lenS h
  obtain ⟨b, c, d, e, rfl⟩ := len4 h'
  exact ⟨a, b, c, d, e, rfl⟩
section
variable {cx : Cx} {r : Nat} {G : Glo} {KE : Sig → Prop} {Pr : Addr → Option Obj} {g : Gh} {s : Shared} {ma : Loc} {σ : Sig}
noncomputable def KeepOK (cx : Cx) (f : AV) : Prop := ∀ (M : Model) (h : Heap) (g : Gh) v, VR cx g f v → cx.K.In h → ∃ k, (k = Keeper.frame ∨ k = Keeper.machine ∨ k = Keeper.boundFrame) ∧ Looks M h (keeperOf v) k
structure CalTo (cx : Cx) (r : Nat) (KE : Sig → Prop) (f : AV) (args : List AV) (σ : Sig) (K : AV → Sig → Prop) : Prop where
  keep : KeepOK cx f
  run : CallTo cx r KE f args σ K
theorem keep_fn {n : Str} {f : Addr} (h1 : nsIn cx.K mainGlobals n = some (some (.ref f))) (h2 : keepIn cx.K (.ref f) = true) : KeepOK cx (.fn n) := fun M h g v vr X => by
  cases vr with
  | fn e => rw [h1] at e; cases e; exact keeps_K h2 h X
theorem keep_builtin {id : String} : KeepOK cx (.cv (.builtin id)) := fun M h g v vr X => by
  obtain rfl := vr.inv; exact ⟨.machine, .inr (.inl rfl), .now⟩
theorem keep_type {T : String} : KeepOK cx (.cv (.type T)) := fun M h g v vr X => by
  obtain rfl := vr.inv; exact ⟨.machine, .inr (.inl rfl), .now⟩
theorem ev_call {x : Str} {np pos : Pos} {e : Expr} {rest : List Expr} {K : AV → Sig → Prop} (he : ∀ env, starEach (e :: rest) env = (false, eval e env) :: starEach rest env) (hp : ∀ env, (backTo pos (starEach rest env)).any (·.1) = false)
    (h : EvTo cx r G KE (.Name x np) ma σ (fun f σ1 => EsTo cx r G KE (e :: rest) ma σ1 (fun as σ2 => CalTo cx r KE f as σ2 K))) : EvTo cx r G KE (.Call (.Name x np) (e :: rest) [] pos) ma σ K := by
  intro A env Pr g s Q E hr hf F J q qe
  refine wpAny_Call_ofName (h A env Pr g s _ E hr hf F J (fun g1 σ1 s1 f fv k1 L1 J1 v1 => ?_) qe)
  have er : ∀ g' σ' s' e, KE σ' → g1.le g' → Inv cx Pr σ' g' s' → Exc cx A.frames Pr σ' g' s'.heap e → E (.ref e) s' := fun g' σ' s' e ke L => qe g' σ' s' e ke (L1.trans L)
  have go := k1 pos A env Pr g1 s1 (fun vs s₁ => ∃ g2, KeepOK cx f ∧ VR cx g2 f fv ∧ cx.K.In s₁.heap ∧ wpAny (model cx.prog cx.w) A (call fv vs) Q E s₁) E hr hf (F.mono L1) J1 (fun g2 σ2 s2 as vs k2 L2 J2 v2 =>
    ⟨g2, k2.keep, v1.mono L2, kin J2, k2.run A Pr g2 s2 fv vs Q E hr hf J2 (v1.mono L2) v2 (fun g' σ' s' av z k3 L3 => q g' σ' s' av z k3 (L1.trans (L2.trans L3))) fun g' σ' s' e ke L => qe g' σ' s' e ke (L1.trans (L2.trans L))⟩) er
  rw [he] at go ⊢
  refine callWith_of (P := fun h => ∃ g2, KeepOK cx f ∧ VR cx g2 f fv ∧ cx.K.In h) (by show ((false || (backTo pos (starEach rest env)).any (·.1)) || false) = false; rw [hp]; rfl) (fun h ⟨g2, a, b, c⟩ => a _ h g2 fv b c) (evalArgs_plain (wpAny_mono go (fun vs s₁ ⟨g2, a, b, c, d⟩ => ⟨⟨g2, a, b, c⟩, d⟩) fun _ _ e => e))
theorem ev_call0 {x : Str} {np pos : Pos} {K : AV → Sig → Prop} (h : EvTo cx r G KE (.Name x np) ma σ (fun f σ1 => CalTo cx r KE f [] σ1 K)) : EvTo cx r G KE (.Call (.Name x np) [] [] pos) ma σ K := by
  intro A env Pr g s Q E hr hf F J q qe
  refine wpAny_Call_ofName (h A env Pr g s _ E hr hf F J (fun g1 σ1 s1 f fv k1 L1 J1 v1 => ?_) qe)
  refine callWith_of (P := fun h => cx.K.In h) rfl (fun h X => k1.keep _ h g1 fv v1 X) (evalArgs_nil3 ⟨kin J1, ?_⟩)
  exact k1.run A Pr g1 s1 fv [] Q E hr hf J1 v1 .nil (fun g' σ' s' av z k3 L3 => q g' σ' s' av z k3 (L1.trans L3)) fun g' σ' s' e ke L => qe g' σ' s' e ke (L1.trans L)
theorem call_fn {n : Str} {f : Addr} {oc : Value} {od : Option Addr} {osl : Array (Option Value)} {name qual : Str} {params : Arguments} {body : List Stmt} {scope : Scope} {dV kV doc pm cdv ct : Value} {an : Option Addr}
    {ps us : List Str} {gl : Loc} {avs davs : List AV} {ds : List Value} {K : AV → Sig → Prop}
    (h1 : nsIn cx.K mainGlobals n = some (some (.ref f)))
    (h2 : cx.K.lookup f = some ⟨oc, od, .func (fnOf name qual params body scope dV kV doc pm an cdv ct), osl⟩) (h3 : codeIn cx.K cdv qual = true)
    (hb : ∀ s vs, vs.length = avs.length → cx.K.In s.heap → BindsTo s (fnOf name qual params body scope dV kV doc pm an cdv ct) ⟨vs, []⟩ (ps.zip (vs ++ ds)))
    (hds : ∀ g, VRs cx g davs ds) (hlen : ps.length = avs.length + davs.length)
    (hn : okNames scope.names (ps ++ us) (gl.map (·.1)) = true) (hG : GS cx gl)
    (hma : ps.zip (avs ++ davs) ++ us.map (fun x => (x, AV.undef)) = ma)
    (hco : scope.isCoroutine = false) (hgen : scope.isGenerator = false) (hk : scope.kind = .function)
    (h : XsTo cx r ⟨gl, scope.names⟩ (fun σ' => ∃ σ'', σ''.Sublist σ' ∧ KE σ'') (fun o _ σ' => ∃ σ'', σ''.Sublist σ' ∧ K (outV o) σ'') body ma σ) : CalTo cx (r + 1) KE (.fn n) avs σ K :=
  ⟨keep_fn h1 (by simp only [keepIn, h2]), call_run h1 h2 h3 hb hds hlen hn hG hma hco hgen hk h⟩
section
variable {n : Str} {f : Addr} {oc : Value} {od : Option Addr} {osl : Array (Option Value)} {name qual : Str} {params : Arguments} {body : List Stmt} {scope : Scope} {dV kV doc pm cdv ct : Value} {an : Option Addr} {us : List Str} {gl : Loc} {K : AV → Sig → Prop} {K0 : Frag}
theorem call_fn0 (hK : cx.K = K0) (us : List Str) (gl : Loc)
    (h1 : nsIn K0 mainGlobals n = some (some (.ref f)))
    (h2 : K0.lookup f = some ⟨oc, od, .func (fnOf name qual params body scope dV kV doc pm an cdv ct), osl⟩) (h3 : codeIn K0 cdv qual = true)
    (hb : bindArgs (fnOf name qual params body scope dV kV doc pm an cdv ct) ⟨[], []⟩ = pure [])
    (hn : okNames scope.names us (gl.map (·.1)) = true) (hG : GS cx gl) (hco : scope.isCoroutine = false) (hgen : scope.isGenerator = false) (hk : scope.kind = .function)
    (h : XsTo cx r ⟨gl, scope.names⟩ (fun σ' => ∃ σ'', σ''.Sublist σ' ∧ KE σ'') (fun o _ σ' => ∃ σ'', σ''.Sublist σ' ∧ K (outV o) σ'') body (us.map fun x => (x, AV.undef)) σ) : CalTo cx (r + 1) KE (.fn n) [] σ K :=
  call_fn (ps := []) (us := us) (davs := []) (ds := []) (hK ▸ h1) (hK ▸ h2) (hK ▸ h3) (fun s vs hl _ => by
    obtain rfl := len0 hl
    exact BindsTo.of_eq hb) (fun _ => .nil) rfl hn hG rfl hco hgen hk h
theorem call_fn1 (hK : cx.K = K0) (p1 : Str) (us : List Str) (gl : Loc) {a1 : AV}
    (h1 : nsIn K0 mainGlobals n = some (some (.ref f)))
    (h2 : K0.lookup f = some ⟨oc, od, .func (fnOf name qual params body scope dV kV doc pm an cdv ct), osl⟩) (h3 : codeIn K0 cdv qual = true)
    (hb : ∀ v1, bindArgs (fnOf name qual params body scope dV kV doc pm an cdv ct) ⟨[v1], []⟩ = pure [(p1, v1)])
    (hn : okNames scope.names (p1 :: us) (gl.map (·.1)) = true) (hG : GS cx gl) (hco : scope.isCoroutine = false) (hgen : scope.isGenerator = false) (hk : scope.kind = .function)
    (h : XsTo cx r ⟨gl, scope.names⟩ (fun σ' => ∃ σ'', σ''.Sublist σ' ∧ KE σ'') (fun o _ σ' => ∃ σ'', σ''.Sublist σ' ∧ K (outV o) σ'') body ((p1, a1) :: us.map fun x => (x, AV.undef)) σ) : CalTo cx (r + 1) KE (.fn n) [a1] σ K :=
  call_fn (ps := [p1]) (us := us) (davs := []) (ds := []) (hK ▸ h1) (hK ▸ h2) (hK ▸ h3) (fun s vs hl _ => by
    obtain ⟨v1, rfl⟩ := len1 hl
    exact BindsTo.of_eq (hb v1)) (fun _ => .nil) rfl hn hG rfl hco hgen hk h
theorem call_fn2 (hK : cx.K = K0) (p1 p2 : Str) (us : List Str) (gl : Loc) {a1 a2 : AV}
    (h1 : nsIn K0 mainGlobals n = some (some (.ref f)))
    (h2 : K0.lookup f = some ⟨oc, od, .func (fnOf name qual params body scope dV kV doc pm an cdv ct), osl⟩) (h3 : codeIn K0 cdv qual = true)
    (hb : ∀ v1 v2, bindArgs (fnOf name qual params body scope dV kV doc pm an cdv ct) ⟨[v1, v2], []⟩ = pure [(p1, v1), (p2, v2)])
    (hn : okNames scope.names (p1 :: p2 :: us) (gl.map (·.1)) = true) (hG : GS cx gl) (hco : scope.isCoroutine = false) (hgen : scope.isGenerator = false) (hk : scope.kind = .function)
    (h : XsTo cx r ⟨gl, scope.names⟩ (fun σ' => ∃ σ'', σ''.Sublist σ' ∧ KE σ'') (fun o _ σ' => ∃ σ'', σ''.Sublist σ' ∧ K (outV o) σ'') body ((p1, a1) :: (p2, a2) :: us.map fun x => (x, AV.undef)) σ) : CalTo cx (r + 1) KE (.fn n) [a1, a2] σ K :=
  call_fn (ps := [p1, p2]) (us := us) (davs := []) (ds := []) (hK ▸ h1) (hK ▸ h2) (hK ▸ h3) (fun s vs hl _ => by
    obtain ⟨v1, v2, rfl⟩ := len2 hl
    exact BindsTo.of_eq (hb v1 v2)) (fun _ => .nil) rfl hn hG rfl hco hgen hk h
theorem call_fn3 (hK : cx.K = K0) (p1 p2 p3 : Str) (us : List Str) (gl : Loc) {a1 a2 a3 : AV}
    (h1 : nsIn K0 mainGlobals n = some (some (.ref f)))
    (h2 : K0.lookup f = some ⟨oc, od, .func (fnOf name qual params body scope dV kV doc pm an cdv ct), osl⟩) (h3 : codeIn K0 cdv qual = true)
    (hb : ∀ v1 v2 v3, bindArgs (fnOf name qual params body scope dV kV doc pm an cdv ct) ⟨[v1, v2, v3], []⟩ = pure [(p1, v1), (p2, v2), (p3, v3)])
    (hn : okNames scope.names (p1 :: p2 :: p3 :: us) (gl.map (·.1)) = true) (hG : GS cx gl) (hco : scope.isCoroutine = false) (hgen : scope.isGenerator = false) (hk : scope.kind = .function)
    (h : XsTo cx r ⟨gl, scope.names⟩ (fun σ' => ∃ σ'', σ''.Sublist σ' ∧ KE σ'') (fun o _ σ' => ∃ σ'', σ''.Sublist σ' ∧ K (outV o) σ'') body ((p1, a1) :: (p2, a2) :: (p3, a3) :: us.map fun x => (x, AV.undef)) σ) : CalTo cx (r + 1) KE (.fn n) [a1, a2, a3] σ K :=
  call_fn (ps := [p1, p2, p3]) (us := us) (davs := []) (ds := []) (hK ▸ h1) (hK ▸ h2) (hK ▸ h3) (fun s vs hl _ => by
    obtain ⟨v1, v2, v3, rfl⟩ := len3 hl
    exact BindsTo.of_eq (hb v1 v2 v3)) (fun _ => .nil) rfl hn hG rfl hco hgen hk h
theorem call_fn4 (hK : cx.K = K0) (p1 p2 p3 p4 : Str) (us : List Str) (gl : Loc) {a1 a2 a3 a4 : AV}
    (h1 : nsIn K0 mainGlobals n = some (some (.ref f)))
    (h2 : K0.lookup f = some ⟨oc, od, .func (fnOf name qual params body scope dV kV doc pm an cdv ct), osl⟩) (h3 : codeIn K0 cdv qual = true)
    (hb : ∀ v1 v2 v3 v4, bindArgs (fnOf name qual params body scope dV kV doc pm an cdv ct) ⟨[v1, v2, v3, v4], []⟩ = pure [(p1, v1), (p2, v2), (p3, v3), (p4, v4)])
    (hn : okNames scope.names (p1 :: p2 :: p3 :: p4 :: us) (gl.map (·.1)) = true) (hG : GS cx gl) (hco : scope.isCoroutine = false) (hgen : scope.isGenerator = false) (hk : scope.kind = .function)
    (h : XsTo cx r ⟨gl, scope.names⟩ (fun σ' => ∃ σ'', σ''.Sublist σ' ∧ KE σ'') (fun o _ σ' => ∃ σ'', σ''.Sublist σ' ∧ K (outV o) σ'') body ((p1, a1) :: (p2, a2) :: (p3, a3) :: (p4, a4) :: us.map fun x => (x, AV.undef)) σ) : CalTo cx (r + 1) KE (.fn n) [a1, a2, a3, a4] σ K :=
  call_fn (ps := [p1, p2, p3, p4]) (us := us) (davs := []) (ds := []) (hK ▸ h1) (hK ▸ h2) (hK ▸ h3) (fun s vs hl _ => by
    obtain ⟨v1, v2, v3, v4, rfl⟩ := len4 hl
    exact BindsTo.of_eq (hb v1 v2 v3 v4)) (fun _ => .nil) rfl hn hG rfl hco hgen hk h
theorem call_fn5 (hK : cx.K = K0) (p1 p2 p3 p4 p5 : Str) (us : List Str) (gl : Loc) {a1 a2 a3 a4 a5 : AV}
    (h1 : nsIn K0 mainGlobals n = some (some (.ref f)))
    (h2 : K0.lookup f = some ⟨oc, od, .func (fnOf name qual params body scope dV kV doc pm an cdv ct), osl⟩) (h3 : codeIn K0 cdv qual = true)
    (hb : ∀ v1 v2 v3 v4 v5, bindArgs (fnOf name qual params body scope dV kV doc pm an cdv ct) ⟨[v1, v2, v3, v4, v5], []⟩ = pure [(p1, v1), (p2, v2), (p3, v3), (p4, v4), (p5, v5)])
    (hn : okNames scope.names (p1 :: p2 :: p3 :: p4 :: p5 :: us) (gl.map (·.1)) = true) (hG : GS cx gl) (hco : scope.isCoroutine = false) (hgen : scope.isGenerator = false) (hk : scope.kind = .function)
    (h : XsTo cx r ⟨gl, scope.names⟩ (fun σ' => ∃ σ'', σ''.Sublist σ' ∧ KE σ'') (fun o _ σ' => ∃ σ'', σ''.Sublist σ' ∧ K (outV o) σ'') body ((p1, a1) :: (p2, a2) :: (p3, a3) :: (p4, a4) :: (p5, a5) :: us.map fun x => (x, AV.undef)) σ) : CalTo cx (r + 1) KE (.fn n) [a1, a2, a3, a4, a5] σ K :=
  call_fn (ps := [p1, p2, p3, p4, p5]) (us := us) (davs := []) (ds := []) (hK ▸ h1) (hK ▸ h2) (hK ▸ h3) (fun s vs hl _ => by
    obtain ⟨v1, v2, v3, v4, v5, rfl⟩ := len5 hl
    exact BindsTo.of_eq (hb v1 v2 v3 v4 v5)) (fun _ => .nil) rfl hn hG rfl hco hgen hk h
theorem call_fn4d (hK : cx.K = K0) (p1 p2 p3 p4 p5 : Str) (us : List Str) (gl : Loc) {a1 a2 a3 a4 : AV} {T : Addr} {o : Obj} {nn : Nat} {kf : Option (Array Value) → Value → Value → Value → Value → Sem (List (Str × Value))}
    (h1 : nsIn K0 mainGlobals n = some (some (.ref f)))
    (h2 : K0.lookup f = some ⟨oc, od, .func (fnOf name qual params body scope (.ref T) kV doc pm an cdv ct), osl⟩) (h3 : codeIn K0 cdv qual = true) (ho : K0.lookup T = some o) (hs : o.data = .seq #[.none] nn)
    (hb : ∀ v1 v2 v3 v4, bindArgs (fnOf name qual params body scope (.ref T) kV doc pm an cdv ct) ⟨[v1, v2, v3, v4], []⟩ = seqItems? (.ref T) >>= fun x => kf x v1 v2 v3 v4)
    (hb2 : ∀ v1 v2 v3 v4, kf (some #[.none]) v1 v2 v3 v4 = pure [(p1, v1), (p2, v2), (p3, v3), (p4, v4), (p5, .none)])
    (hn : okNames scope.names (p1 :: p2 :: p3 :: p4 :: p5 :: us) (gl.map (·.1)) = true) (hG : GS cx gl) (hco : scope.isCoroutine = false) (hgen : scope.isGenerator = false) (hk : scope.kind = .function)
    (h : XsTo cx r ⟨gl, scope.names⟩ (fun σ' => ∃ σ'', σ''.Sublist σ' ∧ KE σ'') (fun o _ σ' => ∃ σ'', σ''.Sublist σ' ∧ K (outV o) σ'') body ((p1, a1) :: (p2, a2) :: (p3, a3) :: (p4, a4) :: (p5, N) :: us.map fun x => (x, AV.undef)) σ) : CalTo cx (r + 1) KE (.fn n) [a1, a2, a3, a4] σ K :=
  call_fn (ps := [p1, p2, p3, p4, p5]) (us := us) (davs := [N]) (ds := [.none]) (hK ▸ h1) (hK ▸ h2) (hK ▸ h3) (fun s vs hl X => by
    obtain ⟨v1, v2, v3, v4, rfl⟩ := len4 hl
    exact binds_K X rfl (hK ▸ ho) hs (hb v1 v2 v3 v4) (hb2 v1 v2 v3 v4)) (fun _ => .cons vr_none .nil) rfl hn hG rfl hco hgen hk h
end
end
end Mine
end
section
open PySem PySem.W PySem.Spec PySem.SeqAt PySem.Calls PyProof.Rows
set_option Elab.async false
namespace Mine
section
variable {cx : Cx} {r : Nat} {G : Glo} {KE : Sig → Prop} {Pr : Addr → Option Obj} {g : Gh} {s : Shared} {ma : Loc} {σ : Sig}
theorem VRs.one {l : List AV} {vs : List Value} {a : AV} (h : VRs cx g (a :: l) vs) : ∃ v t, vs = v :: t ∧ VR cx g a v ∧ VRs cx g l t := h.cons_inv
theorem VRs.nil_inv {vs : List Value} (h : VRs cx g [] vs) : vs = [] := by cases h; rfl
theorem bl_len {T : String} {a : AV} {l : List AV} {K : AV → Sig → Prop} (S : SeqAV T a l) (hT : T = "tuple" ∨ T = "list") (hl : l.length ≤ 1000) (k : K (I l.length) σ) : CalTo cx r KE (.cv (.builtin "len")) [a] σ K := ⟨keep_builtin, by
  intro A Pr g s fv vs Q E hr hf J vf va q qe
  obtain rfl := vf.inv
  obtain ⟨v, t, rfl, vr, rs⟩ := va.one
  cases rs
  rcases hT with rfl | rfl
  · obtain ⟨b, vs, rfl, hb, rs⟩ := seq_tup J S vr
    exact PyProof.Rows.len_tuple hb (by rw [rs.size]; omega) (q g σ _ _ _ k (.refl g) (J.toks _) (by rw [rs.size]; exact vr_int))
  · obtain ⟨b, vs, rfl, hb, rs⟩ := seq_lst J S vr
    exact call_len_list hb (by rw [rs.size]; omega) (q g σ _ _ _ k (.refl g) (J.toks _) (by rw [rs.size]; exact vr_int))⟩
theorem bl_len_lref {a : Addr} {l : List AV} {K : AV → Sig → Prop} (m : (a, l) ∈ σ) (hl : l.length ≤ 1000) (k : K (I l.length) σ) : CalTo cx r KE (.cv (.builtin "len")) [.lref a] σ K := ⟨keep_builtin, by
  intro A Pr g s fv vs Q E hr hf J vf va q qe
  obtain rfl := vf.inv
  obtain ⟨v, t, rfl, vr, rs⟩ := va.one
  cases rs
  obtain ⟨vs, rfl, hb, rs⟩ := lref_lst J m vr
  exact call_len_list hb (by rw [rs.size]; omega) (q g σ _ _ _ k (.refl g) (J.toks _) (by rw [rs.size]; exact vr_int))⟩
theorem bl_abs {i : Int} {K : AV → Sig → Prop} (k : K (I i.natAbs) σ) : CalTo cx r KE (.cv (.builtin "abs")) [I i] σ K := ⟨keep_builtin, by
  intro A Pr g s fv vs Q E hr hf J vf va q qe
  obtain rfl := vf.inv
  obtain ⟨v, t, rfl, vr, rs⟩ := va.one
  cases rs
  obtain ⟨t, rfl⟩ := int_of vr
  refine call_abs_int fun u tk => ?_
  have e : (if i < 0 then -i else i) = (i.natAbs : Int) := by split <;> omega
  rw [e]
  exact q g σ _ _ _ k (.refl g) (J.toks _) vr_int⟩
theorem bl_int {i : Int} {K : AV → Sig → Prop} (k : K (I i) σ) : CalTo cx r KE (.cv (.type "int")) [I i] σ K := ⟨keep_type, by
  intro A Pr g s fv vs Q E hr hf J vf va q qe
  obtain rfl := vf.inv
  obtain ⟨v, t, rfl, vr, rs⟩ := va.one
  cases rs
  obtain ⟨t, rfl⟩ := int_of vr
  exact call_int_int (q g σ s _ _ k (.refl g) J vr_int)⟩
theorem bl_max {i j : Int} {K : AV → Sig → Prop} (k : K (I (if j > i then j else i)) σ) : CalTo cx r KE (.cv (.builtin "max")) [I i, I j] σ K := ⟨keep_builtin, by
  intro A Pr g s fv vs Q E hr hf J vf va q qe
  obtain rfl := vf.inv
  obtain ⟨v, t, rfl, vr, rs⟩ := va.one
  obtain ⟨w, t, rfl, wr, rs⟩ := rs.one
  cases rs
  obtain ⟨t, rfl⟩ := int_of vr
  obtain ⟨u, rfl⟩ := int_of wr
  refine max_two_ints hf.1 fun h' tk hk => q g σ _ _ _ k (.refl g) (J.keep tk hk) ?_
  split <;> exact vr_int⟩
theorem bl_min {i j : Int} {K : AV → Sig → Prop} (k : K (I (if j < i then j else i)) σ) : CalTo cx r KE (.cv (.builtin "min")) [I i, I j] σ K := ⟨keep_builtin, by
  intro A Pr g s fv vs Q E hr hf J vf va q qe
  obtain rfl := vf.inv
  obtain ⟨v, t, rfl, vr, rs⟩ := va.one
  obtain ⟨w, t, rfl, wr, rs⟩ := rs.one
  cases rs
  obtain ⟨t, rfl⟩ := int_of vr
  obtain ⟨u, rfl⟩ := int_of wr
  refine min_two_ints hf.1 fun h' tk hk => q g σ _ _ _ k (.refl g) (J.keep tk hk) ?_
  split <;> exact vr_int⟩
theorem bl_range {n : Int} {K : AV → Sig → Prop} (k : K (.rng n) σ) : CalTo cx r KE (.cv (.type "range")) [I n] σ K := ⟨keep_type, by
  intro A Pr g s fv vs Q E hr hf J vf va q qe
  obtain rfl := vf.inv
  obtain ⟨v, t, rfl, vr, rs⟩ := va.one
  cases rs
  obtain ⟨t, rfl⟩ := int_of vr
  refine call_range_1 ?_
  obtain ⟨L, J2, hz⟩ := J.push { cls := .type "range", data := .fields #[.int 0 s.toks, .int n t, .int 1 (s.toks + 1)] } rfl
  exact q _ σ _ _ _ k L (J2.toks _) (.rng hz)⟩
theorem bl_tuple_d {ps : List PyData} {K : AV → Sig → Prop} (hl : ps.length ≤ 1000) (k : K (.d (.tuple ps)) σ) : CalTo cx r KE (.cv (.type "tuple")) [.d (.list ps)] σ K := ⟨keep_type, by
  intro A Pr g s fv vs Q E hr hf J vf va q qe
  obtain rfl := vf.inv
  obtain ⟨v, t, rfl, vr, rs⟩ := va.one
  cases rs
  obtain ⟨b, vs, rfl, hb, rs⟩ := seq_lst J (.dl rfl) vr
  refine call_tuple_list hb (fun h' hk => ?_) (by rw [rs.size]; exact le_line (by simpa using hl))
  have J1 := J.keep s.toks hk
  obtain ⟨L, J2, hz⟩ := J1.push { cls := .type "tuple", data := .seq vs } rfl
  obtain ⟨as, ra⟩ := reads_all (rs.mono L)
  exact q _ σ _ _ _ k L J2 (.d (.tuple hz rfl rfl ra))⟩
theorem bl_isinstance {kk : Str} {items : List PyData} {K : AV → Sig → Prop} {C : Addr} (hC : nsIn cx.K mainGlobals "Vector" = some (some (.ref C))) (hi : isIn cx.K (.ref C) C = true) (hcl : ∃ cd, clsIn cx.K C = some cd) (k : K (B true) σ) :
    CalTo cx r KE (.cv (.builtin "isinstance")) [.vec kk items, .fn "Vector"] σ K := ⟨keep_builtin, by
  intro A Pr g s fv vs Q E hr hf J vf va q qe
  obtain rfl := vf.inv
  obtain ⟨v, t, rfl, vr, rs⟩ := va.one
  obtain ⟨w, t, rfl, wr, rs⟩ := rs.one
  cases rs
  have e := fn_of wr
  · skip
    rw [hC] at e; cases e
    obtain ⟨a, d, C', _, _, _, rfl, hC', hx, hv, hr⟩ := VR.inv vr
    · skip
      rw [hC] at hC'; cases hC'
      obtain ⟨_, hd, ⟨h1, h2, h3, h4, h5, t1, t2, t3, t4, t5, b, n⟩⟩ := J.vd _ _ _ hv
      exact isi_call (kin J) (fun M => (⟨J.zle _ _ hx, rfl, rfl, hd⟩ : W.InstAt s.heap a (instObj C d) C (some _)).type) hi (by simp) (q g σ s _ _ k (.refl g) J vr_bool)⟩
inductive IsLs (σ : Sig) : AV → List AV → Prop
  | lst {l} : IsLs σ (.lst l) l
  | lref {a l} : (a, l) ∈ σ → IsLs σ (.lref a) l
theorem isLs_at {a : AV} {l : List AV} {v : Value} (J : Inv cx Pr σ g s) (h : IsLs σ a l) (vr : VR cx g a v) : ∃ b vs n, v = .ref b ∧ IsL s.heap b vs n ∧ VRs cx g l vs.toList := by
  cases h with
  | lst => obtain ⟨_, _, _, rfl, h1, h2⟩ := vr.inv; exact ⟨_, _, _, rfl, J.zle _ _ h1, h2⟩
  | lref m =>
    obtain rfl := vr.inv
    obtain ⟨_, _, _, vs, rs, n, q⟩ := J.sg _ m
    exact ⟨_, vs, n, rfl, q, rs⟩
theorem bin_add_list {a b : AV} {l m : List AV} {K : AV → Sig → Prop} (ha : IsLs σ a l) (hb : IsLs σ b m) (hl : l.length + m.length ≤ 1000) (k : K (.lst (l ++ m)) σ) : BinTo cx r .Add a b σ K := by
  intro A Pr g s x y Q E hr J vx vy q
  obtain ⟨c, vs, n, rfl, h1, r1⟩ := isLs_at J ha vx
  obtain ⟨d, ws, n', rfl, h2, r2⟩ := isLs_at J hb vy
  refine P.add_list h1 h2 ?_ (by rw [r1.size, r2.size]; exact le_line hl)
  obtain ⟨L, J2, hz⟩ := J.push { cls := .type "list", data := .seq (vs ++ ws) } rfl
  exact q _ σ _ _ _ k L J2 (.lst hz (by simpa using (r1.append r2).mono L))
theorem bin_add_list_d {a b : AV} {l m : List AV} {ps : List PyData} {K : AV → Sig → Prop} (ha : IsLs σ a l) (hb : IsLs σ b m) (hl : l.length + m.length ≤ 1000) (hp : unD (l ++ m) = some ps) (k : K (.d (.list ps)) σ) : BinTo cx r .Add a b σ K := by
  intro A Pr g s x y Q E hr J vx vy q
  refine bin_add_list (K := fun av σ' => av = .lst (l ++ m) ∧ σ' = σ) ha hb hl ⟨rfl, rfl⟩ A Pr g s x y Q E hr J vx vy fun g' σ' s' av v k' L J' vr => ?_
  obtain ⟨rfl, rfl⟩ := k'
  obtain ⟨_, _, _, rfl, hz, rs⟩ := VR.inv vr
  · skip
    rw [unD_eq hp] at rs
    obtain ⟨as, ra⟩ := reads_all rs
    exact q g' σ' s' _ _ k L J' (.d (.list hz rfl rfl ra))
theorem bin_add_tup {l m : List AV} {K : AV → Sig → Prop} (h1 : l ≠ []) (h2 : m ≠ []) (hl : l.length + m.length ≤ 1000) (k : K (.tup (l ++ m)) σ) : BinTo cx r .Add (.tup l) (.tup m) σ K := by
  intro A Pr g s x y Q E hr J vx vy q
  obtain ⟨c, vs, n, rfl, z1, r1⟩ := VR.inv vx
  · skip
    obtain ⟨d, ws, n', rfl, z2, r2⟩ := VR.inv vy
    · skip
      have e1 : vs.isEmpty = false := by
        rw [Bool.eq_false_iff]; intro z
        have := r1.length; simp at z; subst z; simp at this; exact h1 this
      have e2 : ws.isEmpty = false := by
        rw [Bool.eq_false_iff]; intro z
        have := r2.length; simp at z; subst z; simp at this; exact h2 this
      refine P.add_tuple (J.zle _ _ z1) (J.zle _ _ z2) (by rw [e1]; simp) (by rw [e2]; simp) ?_ (by rw [r1.size, r2.size]; exact le_line hl)
      obtain ⟨L, J2, hz⟩ := J.push { cls := .type "tuple", data := .seq (vs ++ ws) } rfl
      exact q _ σ _ _ _ k L J2 (.tup hz (by simpa using (r1.append r2).mono L))
theorem vr_tup_d {l : List AV} {ps : List PyData} {v : Value} (h : unD l = some ps) (vr : VR cx g (.tup l) v) : VR cx g (.d (.tuple ps)) v := by
  obtain ⟨_, _, _, rfl, hz, rs⟩ := VR.inv vr
  · skip
    rw [unD_eq h] at rs
    obtain ⟨as, ra⟩ := reads_all rs
    exact .d (.tuple hz rfl rfl ra)
theorem vr_lst_d {l : List AV} {ps : List PyData} {v : Value} (h : unD l = some ps) (vr : VR cx g (.lst l) v) : VR cx g (.d (.list ps)) v := by
  obtain ⟨_, _, _, rfl, hz, rs⟩ := VR.inv vr
  · skip
    rw [unD_eq h] at rs
    obtain ⟨as, ra⟩ := reads_all rs
    exact .d (.list hz rfl rfl ra)
theorem bin_add_tup_d {l m : List AV} {ps : List PyData} {K : AV → Sig → Prop} (h1 : l ≠ []) (h2 : m ≠ []) (hl : l.length + m.length ≤ 1000) (hp : unD (l ++ m) = some ps) (k : K (.d (.tuple ps)) σ) : BinTo cx r .Add (.tup l) (.tup m) σ K := by
  intro A Pr g s x y Q E hr J vx vy q
  refine bin_add_tup (K := fun av σ' => av = .tup (l ++ m) ∧ σ' = σ) h1 h2 hl ⟨rfl, rfl⟩ A Pr g s x y Q E hr J vx vy fun g' σ' s' av v k' L J' vr => ?_
  obtain ⟨rfl, rfl⟩ := k'
  exact q g' σ' s' _ _ k L J' (vr_tup_d hp vr)
theorem fold_repl (vs : Array Value) : ∀ (n : Nat) (acc : Array Value), (List.foldl (fun x1 x2 => x1 ++ x2) acc (List.replicate n vs)).toList = acc.toList ++ (List.replicate n vs.toList).flatten
  | 0, acc => by simp
  | n + 1, acc => by
    rw [List.replicate_succ, List.foldl_cons, fold_repl vs n]
    simp [List.replicate_succ]
theorem mul_list0 {prog : Program} {w : World} {A : Around} {E : Value → Shared → Prop} {l : Addr} {items : Array Value} {k : Nat} {x : Int} {u : Tok} {Q : Value → Shared → Prop}
    (hl : s.heap.get? l = some { cls := .type "list", dict := none, data := .seq items k, slots := #[] })
    (hlo : -(2 ^ 63 : Int) ≤ x) (hhi : x < 2 ^ 63) (hsz : items.size * x.toNat ≤ 2 ^ 24)
    (h : Q (.ref s.heap.objs.size) { s with heap := s.heap.push { cls := .type "list", data := .seq (List.foldl (fun x1 x2 => x1 ++ x2) #[] (List.replicate (if items.isEmpty = true then 0 else x.toNat) items)) } }) :
    wpAny (model prog w) A (binaryOp .Mult (.ref l) (.int x u)) Q E s :=
  wpAny_binaryOp_repeat_ref (T := "list") (U := "int") (by decide) ⟨_, hl, rfl⟩ (fun s' => typeIs_int s' x u) noFill_list_mul F.fills_int_mul F.slot_int_rmul repeat_list F.slot_int_index.lookup
    (call_meets F.slot_int_rmul (typeIs_int s x u) F.entry_int_rmul (F.args_int_rmul_2 _ _) (int___rmul___int_list x u l items k)
      ⟨hl, rfl, ⟨_, hl, rfl⟩, call_meets F.slot_list_mul ⟨_, hl, rfl⟩ F.entry_list_mul (F.args_list_mul_2 _ _)
        (AutoListH.list___mul___list_int_3 l items k x u (by simp [Builtin.List.listFitsIndex]; omega) (by omega) (by simp [Builtin.List.listTooLong, sizeLine]; omega))
        ⟨hl, h⟩⟩)
set_option maxRecDepth 100000 in
theorem bin_mul_list {a b : AV} {x : AV} {n : Nat} {K : AV → Sig → Prop} (hn : n ≤ 1000) (k : ∀ a, K (.lref a) ((a, List.replicate n x) :: σ)) : BinTo cx r .Mult (.lst [x]) (I n) σ K := by
  intro A Pr g s v y Q E hr J vx vy q
  obtain ⟨t, rfl⟩ := int_of vy
  obtain ⟨c, vs, m, rfl, z1, r1⟩ := VR.inv vx
  · skip
    have hsz : vs.size = 1 := r1.size
    obtain ⟨w, hw⟩ : ∃ w, vs.toList = [w] := by
      obtain ⟨w, t, e, _, rs⟩ := r1.one
      cases rs; exact ⟨w, e⟩
    have hne : vs.isEmpty = false := by
      rw [Bool.eq_false_iff]; intro z; simp at z; subst z; simp at hsz
    have hl := J.zle _ _ z1
    refine mul_list0 hl (by omega) (by omega) (by rw [hsz]; simp; omega) ?_
    rw [hne]
    simp only [Bool.false_eq_true, if_false, Int.toNat_natCast]
    have e : (List.foldl (fun x1 x2 => x1 ++ x2) #[] (List.replicate n vs)) = (List.replicate n w).toArray := by
      apply Array.toList_inj.mp
      rw [fold_repl, hw]; simp
    rw [e]
    obtain ⟨w', t', e', wr, _⟩ := r1.one
    rw [hw] at e'; cases e'
    have rr : VRs cx g (List.replicate n x) (List.replicate n w) := by
      clear hn k e q vy
      induction n with
      | zero => exact .nil
      | succ n ih => exact .cons wr ih
    exact q g _ _ _ _ (k _) (.refl g) (J.pushList rr) .lref
theorem in_add_list {a : Addr} {b : AV} {l m : List AV} {σ' : Sig} {K : AV → Sig → Prop} (U : SU a l (l ++ m) σ σ') (hb : IsLs σ b m) (hl : l.length + m.length ≤ 1000) (k : K (.lref a) σ') : InTo cx r .Add (.lref a) b σ K := by
  intro A Pr g s x y Q E hr J vx vy q
  obtain ⟨c, vs, n, e, h1, r1⟩ := isLs_at J (.lref U.mem) vx
  obtain ⟨d, ws, n', rfl, h2, r2⟩ := isLs_at J hb vy
  obtain rfl := vx.inv; cases e
  have ha : s.TypeIs (.ref a) "list" := ⟨_, h1, rfl⟩
  have hd : s.TypeIs (.ref d) "list" := ⟨_, h2, rfl⟩
  unfold inplaceOp
  refine wpAny_holding ?_
  have hfi : fillsInplaceSlot (.type "list") "add" (Operator.Add == .Add) = pure false := by
    unfold fillsInplaceSlot
    show (typeLookup (.type "list") (dunderI "add") >>= fun fi => pure (fi.isSome && !isSeqSlot fi)) = pure false
    rw [F.slot_list_iadd.lookup]
    have : isSeqSlot (some (.builtin "list.__iadd__")) = true := by decide +kernel
    simp only [pure_bind, Option.isSome_some, this, Bool.not_true, Bool.and_false]
  refine wpAny_bind (wpAny_typeOf ha (wpAny_bind (wpAny_of_eq hfi ?_)))
  show wpAny _ A (if false = true then _ else _) Q E s
  rw [if_neg Bool.false_ne_true]
  refine wpAny_bind (wpAny_binaryOp1_none (nm := "add") ha hd noFill_list_add ?_)
  refine wpAny_bind (wpAny_of_eq (PySem.seqSlot_of PySem.F.slot_list_iadd.lookup (by decide +kernel)) ?_)
  refine wpAny_bind (wpAny_rule ?_)
  have hz : vs.size + ws.size ≤ sizeLine := by rw [r1.size, r2.size]; exact le_line hl
  refine call_meets (Q := Q) F.slot_list_iadd ha F.entry_list_iadd (F.args_list_iadd_2 _ _) (AutoSeq1.list___iadd___list_list_0 a vs n d ws n' (by simp [Builtin.List.listTooLong]; intro _; omega) (by omega) (by omega)) ⟨h1, h2, ?_⟩
  refine q g σ' _ _ _ k (.refl g) (J.setList U s.toks (Heap.SameBut.update ..) ⟨_, h1.update _⟩ ?_) .lref
  simpa using r1.append r2
theorem ev_append {o elt : Expr} {apos pos : Pos} {K : AV → Sig → Prop} (hb : ∀ env, attributeBase o "append" env (eval o env) = eval o env)
    (hfew : ∀ env, ((backTo pos (starEach [elt] env)).all (fun x => !x.1) && (backToKw pos (keywordEach [] env)).all (fun x => x.1.isSome)
      && decide (([elt] : List Expr).length + ([] : List Keyword).length + (if ([] : List Keyword).isEmpty then 0 else 1) < 30)) = true)
    (hline : (apos.endLine == pos.line) = true) (htrees : ∀ env, backTo pos (starEach [elt] env) = [(false, eval elt env)])
    (h : EvTo cx r G KE o ma σ (fun ov σ1 => ∃ a, ov = .lref a ∧ (∃ l, (a, l) ∈ σ1) ∧ EvTo cx r G KE elt ma σ1 (fun v σ2 => ∃ l σ3, SU a l (l ++ [v]) σ2 σ3 ∧ l.length ≤ 1000 ∧ K N σ3))) : EvTo cx r G KE (.Call (.Attribute o "append" apos) [elt] [] pos) ma σ K := by
  intro A env Pr g s Q E hr hf F J q qe
  refine wpAny_Call_append (hb env) (hfew env) hline (htrees env) (h A env Pr g s _ E hr hf F J (fun g1 σ1 s1 a v k1 L1 J1 v1 => ?_) qe)
  obtain ⟨a, rfl, ⟨l, m⟩, k⟩ := k1
  obtain ⟨_, _, _, vs, _, n, hq⟩ := J1.sg _ m
  obtain rfl := v1.inv
  refine ⟨a, vs, rfl, ⟨_, n, hq, rfl, rfl, rfl⟩, k A env Pr g1 s1 _ E hr hf (F.mono L1) J1 (fun g2 σ2 s2 b w k2 L2 J2 v2 => ?_) fun g' σ' s' e ke L' => qe g' σ' s' e ke (L1.trans L')⟩
  obtain ⟨l, σ3, U, hl, k3⟩ := k2
  obtain ⟨_, _, _, vs, rs, n, hq⟩ := J2.sg _ U.mem
  refine wpAny_list_append_plain ⟨n, hq⟩ (fun h' hl' hs => ?_) (by rw [rs.size]; exact le_line hl)
  exact q g2 σ3 _ _ _ k3 (L1.trans L2) (J2.setList U s2.toks hs hl' (by simpa using rs.snoc v2)) vr_none
theorem vrs_dropLast {x : AV} : ∀ {l : List AV} {vs : List Value}, VRs cx g (l ++ [x]) vs → VRs cx g l vs.dropLast
  | [], vs, h => by
    obtain ⟨v, t, rfl, _, rs⟩ := h.one
    cases rs; exact .nil
  | b :: l, vs, h => by
    obtain ⟨v, t, rfl, p, rs⟩ := VRs.one h
    have hn : t ≠ [] := fun z => by subst z; have := rs.length; simp at this
    rw [List.dropLast_cons_of_ne_nil hn]
    exact .cons p (vrs_dropLast rs)
theorem ev_pop {o : Expr} {apos pos : Pos} {K : AV → Sig → Prop} (hb : ∀ env, attributeBase o "pop" env (eval o env) = eval o env)
    (hfew : ∀ env, ((backTo pos (starEach [] env)).all (fun x => !x.1) && (backToKw pos (keywordEach [] env)).all (fun x => x.1.isSome)
      && decide (([] : List Expr).length + ([] : List Keyword).length + (if ([] : List Keyword).isEmpty then 0 else 1) < 30)) = true)
    (hline : (apos.endLine == pos.line) = true) (htrees : ∀ env, backTo pos (starEach [] env) = [])
    (h : EvTo cx r G KE o ma σ (fun ov σ1 => ∃ a l x σ2, ov = .lref a ∧ SU a (l ++ [x]) l σ1 σ2 ∧ l.length < 1000 ∧ K x σ2)) : EvTo cx r G KE (.Call (.Attribute o "pop" apos) [] [] pos) ma σ K := by
  intro A env Pr g s Q E hr hf F0 J q qe
  refine wpAny_Call_method (T := "list") (id := "list.pop") (hb env) (hfew env) hline F.plainAttrs_list F.slot_list_pop F.type_list_pop (h A env Pr g s _ E hr hf F0 J (fun g1 σ1 s1 a v k1 L1 J1 v1 => ?_) qe)
  obtain ⟨a, l, x, σ2, rfl, U, hl, k⟩ := k1
  obtain ⟨_, _, _, vs, rs, n, hq⟩ := J1.sg _ U.mem
  obtain rfl := v1.inv
  refine ⟨⟨_, hq, rfl⟩, fun b e => by cases e; exact ⟨_, hq, rfl⟩, ?_⟩
  rw [htrees env]
  have hsz := rs.size
  rw [List.length_append] at hsz
  have hi : vs.size - 1 = l.length := by simp at hsz; omega
  obtain ⟨y, hy, vr⟩ := rs.at (i := l.length) (a := x) (by simp)
  refine P.pop_list hq (y := y) (by rw [hi]; exact hy) ?_ (by rw [hsz]; exact le_line (by simp; omega))
  have hlt : vs.size - 1 < vs.size := by simp at hsz; omega
  have e1 : (vs.eraseIdxIfInBounds (vs.size - 1)).toList = vs.toList.dropLast := by
    unfold Array.eraseIdxIfInBounds
    rw [dif_pos hlt]
    rw [Array.toList_eraseIdx]
    rw [List.eraseIdx_eq_dropLast]
    simp; simp at hsz; omega
  refine q g1 σ2 _ _ _ k L1 (J1.setList U s1.toks (Heap.SameBut.update ..) ⟨_, IsL.update hq _⟩ ?_) vr
  rw [e1]
  exact vrs_dropLast rs
end
end Mine
end
section
open PySem PySem.W PySem.Spec PySem.SeqAt PySem.Calls PyProof.Rows
set_option Elab.async false
namespace Mine
inductive FnOk0 (K0 : Frag) (n : Str) : List (Str × NameKind) → List Stmt → Prop
  | mk {f : Addr} {oc : Value} {od : Option Addr} {osl : Array (Option Value)} {name qual : Str} {params : Arguments} {body : List Stmt} {scope : Scope} {dV kV doc pm cdv ct : Value} {an : Option Addr}
    (h1 : nsIn K0 mainGlobals n = some (some (.ref f))) (h2 : K0.lookup f = some ⟨oc, od, .func (fnOf name qual params body scope dV kV doc pm an cdv ct), osl⟩) (h3 : codeIn K0 cdv qual = true)
    (hb : bindArgs (fnOf name qual params body scope dV kV doc pm an cdv ct) ⟨[], []⟩ = pure []) (hco : scope.isCoroutine = false) (hgen : scope.isGenerator = false) (hk : scope.kind = .function) : FnOk0 K0 n scope.names body
theorem go0 {cx : Cx} {σ : Sig} {r : Nat} {KE : Sig → Prop} {K0 : Frag} {n : Str} {names : List (Str × NameKind)} {body : List Stmt} {K : AV → Sig → Prop} (ul : Loc) (gl : Loc) (hul : (ul.map (·.1)).map (fun x => (x, AV.undef)) = ul) (hK : cx.K = K0) (e : FnOk0 K0 n names body)
    (hn : okNames names (ul.map (·.1)) (gl.map (·.1)) = true) (hG : GS cx gl) (h : XsTo cx r ⟨gl, names⟩ (fun σ' => ∃ σ'', σ''.Sublist σ' ∧ KE σ'') (fun o _ σ' => ∃ σ'', σ''.Sublist σ' ∧ K (outV o) σ'') body (ul) σ) :
    CalTo cx (r + 1) KE (.fn n) [] σ K := by
  cases e with
  | mk h1 h2 h3 hb hco hgen hk => exact call_fn0 hK (ul.map (·.1)) gl h1 h2 h3 hb hn hG hco hgen hk (by rw [hul]; exact h)
inductive FnOk1 (K0 : Frag) (n : Str) (p1 : Str) : List (Str × NameKind) → List Stmt → Prop
  | mk {f : Addr} {oc : Value} {od : Option Addr} {osl : Array (Option Value)} {name qual : Str} {params : Arguments} {body : List Stmt} {scope : Scope} {dV kV doc pm cdv ct : Value} {an : Option Addr}
    (h1 : nsIn K0 mainGlobals n = some (some (.ref f))) (h2 : K0.lookup f = some ⟨oc, od, .func (fnOf name qual params body scope dV kV doc pm an cdv ct), osl⟩) (h3 : codeIn K0 cdv qual = true)
    (hb : ∀ v1, bindArgs (fnOf name qual params body scope dV kV doc pm an cdv ct) ⟨[v1], []⟩ = pure [(p1, v1)]) (hco : scope.isCoroutine = false) (hgen : scope.isGenerator = false) (hk : scope.kind = .function) : FnOk1 K0 n p1 scope.names body
theorem go1 {cx : Cx} {σ : Sig} {r : Nat} {KE : Sig → Prop} {K0 : Frag} {n : Str} {names : List (Str × NameKind)} {body : List Stmt} {K : AV → Sig → Prop} {a1 : AV} (p1 : Str) (ul : Loc) (gl : Loc) (hul : (ul.map (·.1)).map (fun x => (x, AV.undef)) = ul) (hK : cx.K = K0) (e : FnOk1 K0 n p1 names body)
    (hn : okNames names (p1 :: ul.map (·.1)) (gl.map (·.1)) = true) (hG : GS cx gl) (h : XsTo cx r ⟨gl, names⟩ (fun σ' => ∃ σ'', σ''.Sublist σ' ∧ KE σ'') (fun o _ σ' => ∃ σ'', σ''.Sublist σ' ∧ K (outV o) σ'') body ((p1, a1) :: ul) σ) :
    CalTo cx (r + 1) KE (.fn n) [a1] σ K := by
  cases e with
  | mk h1 h2 h3 hb hco hgen hk => exact call_fn1 hK p1 (ul.map (·.1)) gl h1 h2 h3 hb hn hG hco hgen hk (by rw [hul]; exact h)
inductive FnOk2 (K0 : Frag) (n : Str) (p1 p2 : Str) : List (Str × NameKind) → List Stmt → Prop
  | mk {f : Addr} {oc : Value} {od : Option Addr} {osl : Array (Option Value)} {name qual : Str} {params : Arguments} {body : List Stmt} {scope : Scope} {dV kV doc pm cdv ct : Value} {an : Option Addr}
    (h1 : nsIn K0 mainGlobals n = some (some (.ref f))) (h2 : K0.lookup f = some ⟨oc, od, .func (fnOf name qual params body scope dV kV doc pm an cdv ct), osl⟩) (h3 : codeIn K0 cdv qual = true)
    (hb : ∀ v1 v2, bindArgs (fnOf name qual params body scope dV kV doc pm an cdv ct) ⟨[v1, v2], []⟩ = pure [(p1, v1), (p2, v2)]) (hco : scope.isCoroutine = false) (hgen : scope.isGenerator = false) (hk : scope.kind = .function) : FnOk2 K0 n p1 p2 scope.names body
theorem go2 {cx : Cx} {σ : Sig} {r : Nat} {KE : Sig → Prop} {K0 : Frag} {n : Str} {names : List (Str × NameKind)} {body : List Stmt} {K : AV → Sig → Prop} {a1 a2 : AV} (p1 p2 : Str) (ul : Loc) (gl : Loc) (hul : (ul.map (·.1)).map (fun x => (x, AV.undef)) = ul) (hK : cx.K = K0) (e : FnOk2 K0 n p1 p2 names body)
    (hn : okNames names (p1 :: p2 :: ul.map (·.1)) (gl.map (·.1)) = true) (hG : GS cx gl) (h : XsTo cx r ⟨gl, names⟩ (fun σ' => ∃ σ'', σ''.Sublist σ' ∧ KE σ'') (fun o _ σ' => ∃ σ'', σ''.Sublist σ' ∧ K (outV o) σ'') body ((p1, a1) :: (p2, a2) :: ul) σ) :
    CalTo cx (r + 1) KE (.fn n) [a1, a2] σ K := by
  cases e with
  | mk h1 h2 h3 hb hco hgen hk => exact call_fn2 hK p1 p2 (ul.map (·.1)) gl h1 h2 h3 hb hn hG hco hgen hk (by rw [hul]; exact h)
inductive FnOk3 (K0 : Frag) (n : Str) (p1 p2 p3 : Str) : List (Str × NameKind) → List Stmt → Prop
  | mk {f : Addr} {oc : Value} {od : Option Addr} {osl : Array (Option Value)} {name qual : Str} {params : Arguments} {body : List Stmt} {scope : Scope} {dV kV doc pm cdv ct : Value} {an : Option Addr}
    (h1 : nsIn K0 mainGlobals n = some (some (.ref f))) (h2 : K0.lookup f = some ⟨oc, od, .func (fnOf name qual params body scope dV kV doc pm an cdv ct), osl⟩) (h3 : codeIn K0 cdv qual = true)
    (hb : ∀ v1 v2 v3, bindArgs (fnOf name qual params body scope dV kV doc pm an cdv ct) ⟨[v1, v2, v3], []⟩ = pure [(p1, v1), (p2, v2), (p3, v3)]) (hco : scope.isCoroutine = false) (hgen : scope.isGenerator = false) (hk : scope.kind = .function) : FnOk3 K0 n p1 p2 p3 scope.names body
theorem go3 {cx : Cx} {σ : Sig} {r : Nat} {KE : Sig → Prop} {K0 : Frag} {n : Str} {names : List (Str × NameKind)} {body : List Stmt} {K : AV → Sig → Prop} {a1 a2 a3 : AV} (p1 p2 p3 : Str) (ul : Loc) (gl : Loc) (hul : (ul.map (·.1)).map (fun x => (x, AV.undef)) = ul) (hK : cx.K = K0) (e : FnOk3 K0 n p1 p2 p3 names body)
    (hn : okNames names (p1 :: p2 :: p3 :: ul.map (·.1)) (gl.map (·.1)) = true) (hG : GS cx gl) (h : XsTo cx r ⟨gl, names⟩ (fun σ' => ∃ σ'', σ''.Sublist σ' ∧ KE σ'') (fun o _ σ' => ∃ σ'', σ''.Sublist σ' ∧ K (outV o) σ'') body ((p1, a1) :: (p2, a2) :: (p3, a3) :: ul) σ) :
    CalTo cx (r + 1) KE (.fn n) [a1, a2, a3] σ K := by
  cases e with
  | mk h1 h2 h3 hb hco hgen hk => exact call_fn3 hK p1 p2 p3 (ul.map (·.1)) gl h1 h2 h3 hb hn hG hco hgen hk (by rw [hul]; exact h)
inductive FnOk4 (K0 : Frag) (n : Str) (p1 p2 p3 p4 : Str) : List (Str × NameKind) → List Stmt → Prop
  | mk {f : Addr} {oc : Value} {od : Option Addr} {osl : Array (Option Value)} {name qual : Str} {params : Arguments} {body : List Stmt} {scope : Scope} {dV kV doc pm cdv ct : Value} {an : Option Addr}
    (h1 : nsIn K0 mainGlobals n = some (some (.ref f))) (h2 : K0.lookup f = some ⟨oc, od, .func (fnOf name qual params body scope dV kV doc pm an cdv ct), osl⟩) (h3 : codeIn K0 cdv qual = true)
    (hb : ∀ v1 v2 v3 v4, bindArgs (fnOf name qual params body scope dV kV doc pm an cdv ct) ⟨[v1, v2, v3, v4], []⟩ = pure [(p1, v1), (p2, v2), (p3, v3), (p4, v4)]) (hco : scope.isCoroutine = false) (hgen : scope.isGenerator = false) (hk : scope.kind = .function) : FnOk4 K0 n p1 p2 p3 p4 scope.names body
theorem go4 {cx : Cx} {σ : Sig} {r : Nat} {KE : Sig → Prop} {K0 : Frag} {n : Str} {names : List (Str × NameKind)} {body : List Stmt} {K : AV → Sig → Prop} {a1 a2 a3 a4 : AV} (p1 p2 p3 p4 : Str) (ul : Loc) (gl : Loc) (hul : (ul.map (·.1)).map (fun x => (x, AV.undef)) = ul) (hK : cx.K = K0) (e : FnOk4 K0 n p1 p2 p3 p4 names body)
    (hn : okNames names (p1 :: p2 :: p3 :: p4 :: ul.map (·.1)) (gl.map (·.1)) = true) (hG : GS cx gl) (h : XsTo cx r ⟨gl, names⟩ (fun σ' => ∃ σ'', σ''.Sublist σ' ∧ KE σ'') (fun o _ σ' => ∃ σ'', σ''.Sublist σ' ∧ K (outV o) σ'') body ((p1, a1) :: (p2, a2) :: (p3, a3) :: (p4, a4) :: ul) σ) :
    CalTo cx (r + 1) KE (.fn n) [a1, a2, a3, a4] σ K := by
  cases e with
  | mk h1 h2 h3 hb hco hgen hk => exact call_fn4 hK p1 p2 p3 p4 (ul.map (·.1)) gl h1 h2 h3 hb hn hG hco hgen hk (by rw [hul]; exact h)
inductive FnOk5 (K0 : Frag) (n : Str) (p1 p2 p3 p4 p5 : Str) : List (Str × NameKind) → List Stmt → Prop
  | mk {f : Addr} {oc : Value} {od : Option Addr} {osl : Array (Option Value)} {name qual : Str} {params : Arguments} {body : List Stmt} {scope : Scope} {dV kV doc pm cdv ct : Value} {an : Option Addr}
    (h1 : nsIn K0 mainGlobals n = some (some (.ref f))) (h2 : K0.lookup f = some ⟨oc, od, .func (fnOf name qual params body scope dV kV doc pm an cdv ct), osl⟩) (h3 : codeIn K0 cdv qual = true)
    (hb : ∀ v1 v2 v3 v4 v5, bindArgs (fnOf name qual params body scope dV kV doc pm an cdv ct) ⟨[v1, v2, v3, v4, v5], []⟩ = pure [(p1, v1), (p2, v2), (p3, v3), (p4, v4), (p5, v5)]) (hco : scope.isCoroutine = false) (hgen : scope.isGenerator = false) (hk : scope.kind = .function) : FnOk5 K0 n p1 p2 p3 p4 p5 scope.names body
theorem go5 {cx : Cx} {σ : Sig} {r : Nat} {KE : Sig → Prop} {K0 : Frag} {n : Str} {names : List (Str × NameKind)} {body : List Stmt} {K : AV → Sig → Prop} {a1 a2 a3 a4 a5 : AV} (p1 p2 p3 p4 p5 : Str) (ul : Loc) (gl : Loc) (hul : (ul.map (·.1)).map (fun x => (x, AV.undef)) = ul) (hK : cx.K = K0) (e : FnOk5 K0 n p1 p2 p3 p4 p5 names body)
    (hn : okNames names (p1 :: p2 :: p3 :: p4 :: p5 :: ul.map (·.1)) (gl.map (·.1)) = true) (hG : GS cx gl) (h : XsTo cx r ⟨gl, names⟩ (fun σ' => ∃ σ'', σ''.Sublist σ' ∧ KE σ'') (fun o _ σ' => ∃ σ'', σ''.Sublist σ' ∧ K (outV o) σ'') body ((p1, a1) :: (p2, a2) :: (p3, a3) :: (p4, a4) :: (p5, a5) :: ul) σ) :
    CalTo cx (r + 1) KE (.fn n) [a1, a2, a3, a4, a5] σ K := by
  cases e with
  | mk h1 h2 h3 hb hco hgen hk => exact call_fn5 hK p1 p2 p3 p4 p5 (ul.map (·.1)) gl h1 h2 h3 hb hn hG hco hgen hk (by rw [hul]; exact h)
inductive FnOk4d (K0 : Frag) (n : Str) (p1 p2 p3 p4 p5 : Str) : List (Str × NameKind) → List Stmt → Prop
  | mk {f T : Addr} {o : Obj} {nn : Nat} {oc : Value} {od : Option Addr} {osl : Array (Option Value)} {name qual : Str} {params : Arguments} {body : List Stmt} {scope : Scope} {kV doc pm cdv ct : Value} {an : Option Addr} (kf : Option (Array Value) → Value → Value → Value → Value → Sem (List (Str × Value)))
    (h1 : nsIn K0 mainGlobals n = some (some (.ref f))) (h2 : K0.lookup f = some ⟨oc, od, .func (fnOf name qual params body scope (.ref T) kV doc pm an cdv ct), osl⟩) (h3 : codeIn K0 cdv qual = true) (ho : K0.lookup T = some o) (hs : o.data = .seq #[.none] nn)
    (hb : ∀ v1 v2 v3 v4, bindArgs (fnOf name qual params body scope (.ref T) kV doc pm an cdv ct) ⟨[v1, v2, v3, v4], []⟩ = seqItems? (.ref T) >>= fun x => kf x v1 v2 v3 v4)
    (hb2 : ∀ v1 v2 v3 v4, kf (some #[.none]) v1 v2 v3 v4 = pure [(p1, v1), (p2, v2), (p3, v3), (p4, v4), (p5, .none)])
    (hco : scope.isCoroutine = false) (hgen : scope.isGenerator = false) (hk : scope.kind = .function) : FnOk4d K0 n p1 p2 p3 p4 p5 scope.names body
theorem go4d {cx : Cx} {σ : Sig} {r : Nat} {KE : Sig → Prop} {K0 : Frag} {n : Str} {names : List (Str × NameKind)} {body : List Stmt} {K : AV → Sig → Prop} {a1 a2 a3 a4 : AV} (p1 p2 p3 p4 p5 : Str) (ul : Loc) (gl : Loc) (hul : (ul.map (·.1)).map (fun x => (x, AV.undef)) = ul) (hK : cx.K = K0) (e : FnOk4d K0 n p1 p2 p3 p4 p5 names body)
    (hn : okNames names (p1 :: p2 :: p3 :: p4 :: p5 :: ul.map (·.1)) (gl.map (·.1)) = true) (hG : GS cx gl) (h : XsTo cx r ⟨gl, names⟩ (fun σ' => ∃ σ'', σ''.Sublist σ' ∧ KE σ'') (fun o _ σ' => ∃ σ'', σ''.Sublist σ' ∧ K (outV o) σ'') body ((p1, a1) :: (p2, a2) :: (p3, a3) :: (p4, a4) :: (p5, N) :: ul) σ) :
    CalTo cx (r + 1) KE (.fn n) [a1, a2, a3, a4] σ K := by
  cases e with
  | mk kf h1 h2 h3 ho hs hb hb2 hco hgen hk => exact call_fn4d hK p1 p2 p3 p4 p5 (ul.map (·.1)) gl h1 h2 h3 ho hs hb hb2 hn hG hco hgen hk (by rw [hul]; exact h)
end Mine
end
section
open PySem PySem.W PySem.Spec PySem.SeqAt PySem.Calls PyProof.Rows
set_option Elab.async false
namespace Mine
inductive TupOf (avs : List AV) : AV → Prop
  | d {ps} : unD avs = some ps → TupOf avs (.d (.tuple ps))
  | tup : TupOf avs (.tup avs)
inductive LstOf (avs : List AV) : AV → Prop
  | d {ps} : unD avs = some ps → LstOf avs (.d (.list ps))
  | lst : LstOf avs (.lst avs)
section
variable {cx : Cx} {r : Nat} {G : Glo} {KE : Sig → Prop} {Pr : Addr → Option Obj} {g : Gh} {s : Shared} {ma : Loc} {σ : Sig}
theorem ev_tuple_a {es : List Expr} {kk : Nat} {pos : Pos} {K : AV → Sig → Prop} (h : EsTo cx r G KE es ma σ (fun avs σ1 => avs.length ≤ 1000 ∧ ∃ a, TupOf avs a ∧ K a σ1)) : EvTo cx r G KE (.Tuple es kk pos) ma σ K := by
  refine ev_tuple_x (K := fun avs av σ1 => TupOf avs av ∧ K av σ1) (fun k v e => ?_) (fun _ _ _ ⟨_, k⟩ => k) h
  have t : VR cx _ (.tup _) _ := .tup e (by simpa using v)
  cases k.1 with
  | d h => exact vr_tup_d h t
  | tup => exact t
theorem ev_list_a {es : List Expr} {pos : Pos} {K : AV → Sig → Prop} (h : EsTo cx r G KE es ma σ (fun avs σ1 => avs.length ≤ 1000 ∧ ∃ a, LstOf avs a ∧ K a σ1)) : EvTo cx r G KE (.List es pos) ma σ K := by
  refine ev_list_x (K := fun avs av σ1 => LstOf avs av ∧ K av σ1) (fun k v e => ?_) (fun _ _ _ ⟨_, k⟩ => k) h
  have t : VR cx _ (.lst _) _ := .lst e (by simpa using v)
  cases k.1 with
  | d h => exact vr_lst_d h t
  | lst => exact t
theorem cal_mono {f : AV} {args : List AV} {K K' : AV → Sig → Prop} (h : CalTo cx r KE f args σ K) (k : ∀ a σ', K a σ' → K' a σ') : CalTo cx r KE f args σ K' :=
  ⟨h.keep, fun A Pr g s fv vs Q E hr hf J vf va q qe => h.run A Pr g s fv vs Q E hr hf J vf va (fun g' σ' s' av v k' => q g' σ' s' av v (k _ _ k')) qe⟩
theorem cal_le {f : AV} {args : List AV} {r' : Nat} {K : AV → Sig → Prop} (h : CalTo cx r' KE f args σ K) (hr : r' ≤ r) : CalTo cx r KE f args σ K :=
  ⟨h.keep, fun A Pr g s fv vs Q E hr' hf J vf va q qe => h.run A Pr g s fv vs Q E (hr'.le hr) hf J vf va q qe⟩
theorem log_mono {a b : Nat} (h : a ≤ b) : a.log2 ≤ b.log2 := by
  by_cases ha : a = 0
  · subst ha; simp
  · exact (Nat.le_log2 (by omega)).mpr (Nat.le_trans (Nat.log2_self_le ha) h)
end
end Mine
end
section
open PySem PySem.W PySem.Spec PySem.SeqAt PySem.Calls PyProof.Rows
set_option Elab.async false
namespace Mine
section
variable {cx : Cx} {r : Nat} {G : Glo} {KE : Sig → Prop} {Pr : Addr → Option Obj} {g : Gh} {s : Shared} {ma : Loc} {σ : Sig}
theorem ev_bool_one {op : PySem.BoolOp} {e : Expr} {pos : Pos} {K : AV → Sig → Prop} (h : EvTo cx r G KE e ma σ K) : EvTo cx r G KE (.BoolOp op [e] pos) ma σ K := by
  intro A env Pr g s Q E hr hf F0 J q qe
  exact BoolOp_one (h A env Pr g s Q E hr hf F0 J q qe)
theorem ev_bool_and {e e' : Expr} {rest : List Expr} {pos : Pos} {K : AV → Sig → Prop}
    (h : EvTo cx r G KE e ma σ (fun a σ1 => TruTo cx r a σ1 (fun z => Ways z (EvTo cx r G KE (.BoolOp .And (e' :: rest) pos) ma σ1 K) (K a σ1)))) : EvTo cx r G KE (.BoolOp .And (e :: e' :: rest) pos) ma σ K := by
  intro A env Pr g s Q E hr hf F0 J q qe
  refine BoolOp_and (h A env Pr g s _ E hr hf F0 J (fun g1 σ1 s1 a v k1 L1 J1 v1 => ?_) qe)
  refine k1 A Pr g1 s1 v _ E hr J1 v1 fun z s2 k2 J2 => ?_
  cases z with
  | true => exact k2.1 rfl A env Pr g1 s2 Q E hr hf (F0.mono L1) J2 (fun g' σ' s' av v k L => q g' σ' s' av v k (L1.trans L)) fun g' σ' s' e ke L => qe g' σ' s' e ke (L1.trans L)
  | false => exact q g1 σ1 s2 a v (k2.2 rfl) L1 J2 v1
theorem ev_bool_or {e e' : Expr} {rest : List Expr} {pos : Pos} {K : AV → Sig → Prop}
    (h : EvTo cx r G KE e ma σ (fun a σ1 => TruTo cx r a σ1 (fun z => Ways z (K a σ1) (EvTo cx r G KE (.BoolOp .Or (e' :: rest) pos) ma σ1 K)))) : EvTo cx r G KE (.BoolOp .Or (e :: e' :: rest) pos) ma σ K := by
  intro A env Pr g s Q E hr hf F0 J q qe
  refine BoolOp_or (h A env Pr g s _ E hr hf F0 J (fun g1 σ1 s1 a v k1 L1 J1 v1 => ?_) qe)
  refine k1 A Pr g1 s1 v _ E hr J1 v1 fun z s2 k2 J2 => ?_
  cases z with
  | false => exact k2.2 rfl A env Pr g1 s2 Q E hr hf (F0.mono L1) J2 (fun g' σ' s' av v k L => q g' σ' s' av v k (L1.trans L)) fun g' σ' s' e ke L => qe g' σ' s' e ke (L1.trans L)
  | true => exact q g1 σ1 s2 a v (k2.1 rfl) L1 J2 v1
theorem ts_ifexp {t b o : Expr} {pos : Pos} {K : Bool → Sig → Prop}
    (h : TsTo cx r G KE t ma σ (fun z σ1 => Ways z (TsTo cx r G KE b ma σ1 K) (TsTo cx r G KE o ma σ1 K))) : TsTo cx r G KE (.IfExp t b o pos) ma σ K := by
  intro A env Pr g s Q E hr hf F0 J q qe
  refine isTrue_IfExp (h A env Pr g s _ E hr hf F0 J (fun g1 σ1 s1 z k1 L1 J1 => ?_) qe)
  cases z with
  | true => exact k1.1 rfl A env Pr g1 s1 Q E hr hf (F0.mono L1) J1 (fun g' σ' s' b k L => q g' σ' s' b k (L1.trans L)) fun g' σ' s' e ke L => qe g' σ' s' e ke (L1.trans L)
  | false => exact k1.2 rfl A env Pr g1 s1 Q E hr hf (F0.mono L1) J1 (fun g' σ' s' b k L => q g' σ' s' b k (L1.trans L)) fun g' σ' s' e ke L => qe g' σ' s' e ke (L1.trans L)
noncomputable def PuTo (cx : Cx) (e : Expr) (G : Glo) (ma : Loc) (K : AV → Prop) : Prop :=
  ∀ A env Pr σ g s (Q : Value → Shared → Prop) (E : Value → Shared → Prop), Fm cx env G ma Pr g → Inv cx Pr σ g s →
    (∀ g' s' av v, K av → g.le g' → Inv cx Pr σ g' s' → VR cx g' av v → (∀ b o, s.heap.get? b = some o → s'.heap.get? b = some o) → (∀ b o, s.heap.get? b = some o → g.Z.get? b = none → g'.Z.get? b = none) → (∀ b, g'.V b = g.V b) → Q v s') →
    wpAny (model cx.prog cx.w) A (eval e env) Q E s
theorem pu_local {x : Str} {pos : Pos} {a : AV} {K : AV → Prop} (h : Lk x a ma) (hu : a ≠ .undef) (k : K a) : PuTo cx (.Name x pos) G ma K := by
  intro A env Pr σ g s Q E F0 J q
  obtain ⟨m, hn, hv⟩ := fr_of F0 J
  obtain ⟨hd, ov, hs, hov⟩ := hv _ h.mem
  rcases hov with e | ⟨v, rfl, vr⟩
  · exact absurd e hu
  · exact wpAny_Name (load_slot F0 J hn hs (q g s a v k (.refl g) J vr (fun _ _ e => e) (fun _ _ _ e => e) fun _ => rfl)) hd
theorem pu_int {i : Int} {kk : Nat} {pos : Pos} {K : AV → Prop} (k : K (I i)) : PuTo cx (.Constant (.int i) kk pos) G ma K := by
  intro A env Pr σ g s Q E F0 J q
  exact wpAny_Constant_int (q g _ _ _ k (.refl g) (J.toks _) vr_int (fun _ _ e => e) (fun _ _ _ e => e) fun _ => rfl)
theorem pu_bin {l x : Expr} {op : Operator} {pos : Pos} {K : AV → Prop} (hop : op = .Add ∨ op = .Sub ∨ op = .Mult)
    (h : PuTo cx l G ma (fun a => PuTo cx x G ma (fun b => ∃ i j, a = I i ∧ b = I j ∧ (op = .Mult → IntMulOk i j) ∧ K (I (match op with | .Add => i + j | .Sub => i - j | _ => i * j))))) : PuTo cx (.BinOp l op x pos) G ma K := by
  intro A env Pr σ g s Q E F0 J q
  refine wpAny_BinOp (h A env Pr σ g s _ E F0 J fun g1 s1 a v k1 L1 J1 v1 h1 z1 e1 => ?_)
  refine k1 A env Pr σ g1 s1 _ E (F0.mono L1) J1 fun g2 s2 b w k2 L2 J2 v2 h2 z2 e2 => ?_
  obtain ⟨i, j, rfl, rfl, hm, k⟩ := k2
  obtain ⟨t, rfl⟩ := int_of v1
  obtain ⟨u, rfl⟩ := int_of v2
  have fin : ∀ n t' tk, K (I n) → Q (.int n t') { s2 with toks := tk } := fun n t' tk k => q g2 _ _ _ k (L1.trans L2) (J2.toks _) vr_int (fun b o e => h2 _ _ (h1 _ _ e)) (fun b o e z => z2 _ _ (h1 _ _ e) (z1 _ _ e z)) fun b => (e2 b).trans (e1 b)
  rcases hop with rfl | rfl | rfl
  · exact PyProof.Rows.add_int (fin _ _ _ k)
  · exact PyProof.Rows.sub_int (fin _ _ _ k)
  · exact PyProof.Rows.mul_int (fin _ _ _ k) (hm rfl)
theorem pu_cmp {l x : Expr} {op : CmpOp} {pos : Pos} {K : AV → Prop} (hm : behindInMarks op x = false) (hop : op = .Eq ∨ op = .NotEq ∨ op = .Lt ∨ op = .GtE)
    (h : PuTo cx l G ma (fun a => PuTo cx x G ma (fun b => ∃ i j, a = I i ∧ b = I j ∧ K (B (match op with | .Eq => i == j | .NotEq => i != j | .Lt => decide (i < j) | _ => decide (j ≤ i)))))) : PuTo cx (.Compare l [op] [x] pos) G ma K := by
  intro A env Pr σ g s Q E F0 J q
  refine wpAny_Compare1 (h A env Pr σ g s _ E F0 J fun g1 s1 a v k1 L1 J1 v1 h1 z1 e1 => ?_) hm
  refine k1 A env Pr σ g1 s1 _ E (F0.mono L1) J1 fun g2 s2 b w k2 L2 J2 v2 h2 z2 e2 => ?_
  obtain ⟨i, j, rfl, rfl, k⟩ := k2
  obtain ⟨t, rfl⟩ := int_of v1
  obtain ⟨u, rfl⟩ := int_of v2
  have fin : ∀ z, K (B z) → Q (.bool z) s2 := fun z k => q g2 _ _ _ k (L1.trans L2) J2 vr_bool (fun b o e => h2 _ _ (h1 _ _ e)) (fun b o e z => z2 _ _ (h1 _ _ e) (z1 _ _ e z)) fun b => (e2 b).trans (e1 b)
  rcases hop with rfl | rfl | rfl | rfl
  · exact PySem.P.eq_int (fin _ k)
  · exact PySem.P.ne_int (fin _ k)
  · exact PySem.P.lt_int (fin _ k)
  · exact PySem.P.ge_int (fin _ k)
theorem pu_pair {e1 e2 : Expr} {kk : Nat} {pos : Pos} {K : AV → Prop} (hs1 : ∀ env, starEach [e1, e2] env = (false, eval e1 env) :: starEach [e2] env) (hs2 : ∀ env, starEach [e2] env = (false, eval e2 env) :: starEach [] env)
    (h : PuTo cx e1 G ma (fun a => PuTo cx e2 G ma (fun b => ∃ i j, a = I i ∧ b = I j ∧ K (.d (.tuple [.int i, .int j]))))) : PuTo cx (.Tuple [e1, e2] kk pos) G ma K := by
  intro A env Pr σ g s Q E F0 J q
  refine wpAny_Tuple (wpAny_items_cons (h A env Pr σ g s _ E F0 J fun g1 s1 a v k1 L1 J1 v1 h1 z1 e1 => ?_) ?_)
  · refine wpAny_items_cons (k1 A env Pr σ g1 s1 _ E (F0.mono L1) J1 fun g2 s2 b w k2 L2 J2 v2 h2 z2 e2 => ?_) ?_
    · refine wpAny_items_nil ⟨le_line (Nat.le_of_ble_eq_true rfl), ?_⟩
      obtain ⟨i, j, rfl, rfl, k⟩ := k2
      have fr : s2.heap.get? s2.heap.objs.size = none := get_none_of_size (Nat.le_refl _)
      obtain ⟨L3, J3, hz⟩ := J2.push { cls := .type "tuple", data := .seq [v, w].toArray } rfl
      have keep3 : ∀ b o, s2.heap.get? b = some o → (s2.heap.push { cls := .type "tuple", data := .seq [v, w].toArray }).get? b = some o := fun b o e => Heap.get?_push_of_some _ e
      refine q _ _ _ _ k (L1.trans (L2.trans L3)) J3 ?_ (fun b o e => keep3 _ _ (h2 _ _ (h1 _ _ e))) (fun b o e z => ?_) fun b => (e2 b).trans (e1 b)
      · obtain ⟨t, rfl⟩ := int_of v1
        obtain ⟨u, rfl⟩ := int_of v2
        exact .d (.tuple hz rfl rfl (.cons (.int i t) (.cons (.int j u) .nil)))
      · refine g2.add_none (z2 _ _ (h1 _ _ e) (z1 _ _ e z)) fun hm => ?_
        rw [List.mem_singleton.mp hm] at e
        have := h2 _ _ (h1 _ _ e)
        rw [fr] at this; cases this
    · exact hs2 env
  · exact hs1 env
inductive KeyIs : Option Expr → Str → Prop
  | mk {k kk p} : KeyIs (some (.Constant (.str k) kk p)) k
noncomputable def DsTo (cx : Cx) (G : Glo) (ma : Loc) (K : List Str → List AV → Prop) : List (Option Expr) → List Expr → List Str → List AV → Prop
  | [], [], ks, l => K ks.reverse l.reverse
  | ke :: kr, e :: er, ks, l => ∃ k, KeyIs ke k ∧ PuTo cx e G ma (fun a => DsTo cx G ma K kr er (k :: ks) (a :: l))
  | _, _, _, _ => False
noncomputable def evalKey (env : Env) : Option Expr → Sem Value
  | some k => eval k env
  | none => pure .none
noncomputable def pairsOf (pos : Pos) (env : Env) : List (Option Expr) → List Expr → List (Sem Value × Sem Value)
  | k :: kr, e :: er => (evalKey env k, do let x ← eval e env; standAt pos; pure x) :: pairsOf pos env kr er
  | _, _ => []
theorem pairs_shape {env : Env} {pos : Pos} : ∀ {keys : List (Option Expr)} {values : List Expr}, keys.all (·.isSome) = true →
    (evalEachOpt keys env).zip ((evalEach values env).map fun v => do let x ← v; standAt pos; pure x) = (pairsOf pos env keys values).map fun p => (some p.1, p.2)
  | [], values, _ => by cases values <;> rfl
  | some k :: kr, [], _ => by simp [evalEach, pairsOf]
  | some k :: kr, e :: er, h => by
    have ih := pairs_shape (env := env) (pos := pos) (keys := kr) (values := er) (by simpa using h)
    simp only [evalEachOpt, evalEach, evalOpt, List.map_cons, List.zip_cons_cons, pairsOf, evalKey]
    rw [ih]
  | none :: _, _, h => by simp at h
theorem merged_nodup : ∀ (more : List (Str × Value)) (acc : List (Str × Value)), ((acc ++ more).map (·.1)).Nodup → merged acc more = acc ++ more
  | [], acc, _ => by simp [merged]
  | x :: r, acc, h => by
    have hx : acc.any (fun kv => kv.1 = x.1) = false := by
      rw [List.any_eq_false]
      intro y hy e
      have e' : y.1 = x.1 := by simpa using e
      rw [List.map_append, List.map_cons, List.nodup_append] at h
      exact h.2.2 y.1 (List.mem_map_of_mem hy) x.1 List.mem_cons_self e'
    have hs : stored acc x.1 x.2 = acc ++ [x] := by unfold stored; rw [hx]; simp
    show merged (stored acc x.1 x.2) r = _
    rw [hs, merged_nodup r (acc ++ [x]) (by simpa using h)]
    simp
noncomputable def Unk (Pr : Addr → Option Obj) (σ : Sig) (g : Gh) (D : Addr) : Prop := g.Z.get? D = none ∧ Pr D = none ∧ g.V D = none ∧ ∀ e ∈ σ, e.1 ≠ D
theorem Inv.other (J : Inv cx Pr σ g s) {D : Addr} (u : Unk Pr σ g D) {h' : Heap} (t : Nat) (hs : Heap.SameBut D s.heap h') : Inv cx Pr σ g { s with heap := h', toks := t } :=
  { zle := fun b o e => (hs.2 b (some_ne u.1 e)).trans (J.zle b o e)
    base := J.base
    pr := fun b o e => let ⟨a, v, sl, hf, q⟩ := J.pr b o e; ⟨a, v, sl, hf, (hs.2 b (some_ne u.2.1 e)).trans q⟩
    sg := fun e he => let ⟨a, b, v, vs, r, n, q⟩ := J.sg e he; ⟨a, b, v, vs, r, n, (hs.2 _ (u.2.2.2 e he)).trans q⟩
    nd := J.nd
    vd := fun d kv iv e => ⟨(J.vd d kv iv e).1, (J.vd d kv iv e).2.map fun _ => (hs.2 _ (some_ne u.2.2.1 e)).trans⟩
    gens := J.gens, os := J.os, dr := J.dr }
theorem Inv.adopt (J : Inv cx Pr σ g s) {D : Addr} (u : Unk Pr σ g D) : g.le (g.add s.heap [D]) ∧ Inv cx Pr σ (g.add s.heap [D]) s ∧ ∀ o, s.heap.get? D = some o → (g.add s.heap [D]).Z.get? D = some o := by
  have L : g.le (g.add s.heap [D]) := ⟨fun b o e => g.add_get (J.zle b o e) (.inl (by rw [e]; rfl)), fun _ _ e => e⟩
  have nm : ∀ {b}, b ≠ D → b ∉ [D] := fun n q => n (List.mem_singleton.mp q)
  refine ⟨L, ?_, fun o e => g.add_get e (.inr List.mem_cons_self)⟩
  exact
  { zle := fun b o e => (g.of_add e).1
    base := fun b o e => L.z b o (J.base b o e)
    pr := fun b o e => let ⟨a, r⟩ := J.pr b o e; ⟨g.add_none a (nm (some_ne u.2.1 e)), r⟩
    sg := fun e he => let ⟨a, b, v, vs, r, q⟩ := J.sg e he; ⟨g.add_none a (nm (u.2.2.2 e he)), b, v, vs, r.mono L, q⟩
    nd := J.nd
    vd := fun d kv iv e => let ⟨a, r⟩ := J.vd d kv iv e; ⟨g.add_none a (nm (some_ne u.2.2.1 (show g.V d = some (kv, iv) from e))), r⟩
    gens := J.gens, os := J.os, dr := J.dr }
theorem ds_run {A : Around} {env : Env} {pos : Pos} {K : List Str → List AV → Prop} {E : Value → Shared → Prop} (keys : List (Option Expr)) : ∀ (values : List Expr) (ks : List Str) (l : List AV) (g : Gh) (s : Shared) (Q : List (Value × Value) → Shared → Prop) ,
    DsTo cx G ma K keys values ks l → Fm cx env G ma Pr g → Inv cx Pr σ g s →
    (∀ g' s' ks' l' vs, K (ks.reverse ++ ks') (l.reverse ++ l') → g.le g' → Inv cx Pr σ g' s' → VRs cx g' l' (vs.map (·.2)) → (∀ b o, s.heap.get? b = some o → s'.heap.get? b = some o) → (∀ b o, s.heap.get? b = some o → g.Z.get? b = none → g'.Z.get? b = none) → (∀ b, g'.V b = g.V b) →
      Carries (PySem.strKind cx.prog cx.w) vs (ks'.zip (vs.map (·.2))) → ks'.length = vs.length → Q vs s') →
    wpAny (model cx.prog cx.w) A (evalPairs (pairsOf pos env keys values)) Q E s := by
  induction keys with
  | nil =>
    intro values ks l g s Q h F0 J q
    cases values with
    | nil => exact evalPairs_nil (q g s [] [] [] (by simpa [DsTo] using h) (.refl g) J .nil (fun _ _ e => e) (fun _ _ _ e => e) (fun _ => rfl) trivial rfl)
    | cons => exact h.elim
  | cons ke kr ih =>
    intro values ks l g s Q h F0 J q
    cases values with
    | nil => exact h.elim
    | cons e er =>
      obtain ⟨k, hk, h⟩ := h
      cases hk with
      | @mk _ kk0 p0 =>
        refine evalPairs_cons (wpAny_Constant_str (k := kk0) (pos := p0) ?_)
        refine wpAny_bind (h A env Pr σ g _ _ E F0 (J.toks _) fun g1 s1 a v k1 L1 J1 v1 h1 z1 e1 => ?_)
        refine wpAny_bind (wpAny_standAt (wpAny_pure ?_))
        refine ih er (k :: ks) (a :: l) g1 s1 _ k1 (F0.mono L1) J1 fun g2 s2 ks' l' vs kk L2 J2 rs h2 z2 e2 hc hl => ?_
        refine q g2 s2 (k :: ks') (a :: l') _ (by simpa using kk) (L1.trans L2) J2 (.cons (v1.mono L2) rs) (fun b o e => h2 _ _ (h1 _ _ e)) (fun b o e z => z2 _ _ (h1 _ _ e) (z1 _ _ e z)) (fun b => (e2 b).trans (e1 b)) ?_ (by simp [hl])
        exact ⟨by simp [PySem.strKind, Value.isStrOf], rfl, hc⟩
theorem ev_dict {keys : List (Option Expr)} {values : List Expr} {pos : Pos} {K : AV → Sig → Prop} (hk : keys.all (·.isSome) = true) (h0 : ∀ env, pairsOf pos env keys values ≠ []) (hlen : ∀ env, (pairsOf pos env keys values).length ≤ 15)
    (h : DsTo cx G ma (fun ks l => ks.Nodup ∧ K (.dct ks l) σ) keys values [] []) : EvTo cx r G KE (.Dict keys values pos) ma σ K := by
  intro A env Pr g s Q E hr hf F0 J q qe
  have fr : s.heap.get? s.heap.objs.size = none := get_none_of_size (Nat.le_refl _)
  have u0 : Unk Pr σ g s.heap.objs.size := ⟨J.z_fresh fr, J.p_fresh fr, J.v_fresh fr, J.s_fresh fr⟩
  have hD : (s.heap.push { cls := .type "dict", data := .dict #[] }).get? s.heap.objs.size = some { cls := .type "dict", data := .dict #[] } := Heap.get?_push_size _ rfl
  have J1 := J.keep (h' := s.heap.push { cls := .type "dict", data := .dict #[] }) s.toks fun b o e => Heap.get?_push_of_some _ e
  refine wpAny_Dict_pairs (knd := PySem.strKind cx.prog cx.w) (pairs_shape hk) (h0 env) (hlen env) (ds_run keys values [] [] g _ _ h F0 J1 fun g2 s2 ks' l' vs kk L2 J2 rs hk2 hz2 hv2 hc hl => ?_)
  have hD2 := hk2 _ _ hD
  refine ⟨ks'.zip (vs.map (·.2)), hc, ⟨_, #[], 0, hD2, ⟨rfl, rfl, rfl⟩, rfl, fun _ h => (by simp at h), (by first | exact .nil | exact List.Forall₂.nil | simp [Pairs]), List.nodup_nil⟩, fun h' hd hs => ?_⟩
  have u2 : Unk Pr σ g2 s.heap.objs.size := ⟨hz2 _ _ hD u0.1, u0.2.1, (hv2 _).trans u0.2.2.1, u0.2.2.2⟩
  have J3 := J2.other u2 (s2.toks + vs.length) hs
  obtain ⟨L4, J4, hz4⟩ := J3.adopt u2
  have hn : ((ks'.zip (vs.map (·.2))).map (·.1)) = ks' := List.map_fst_zip (by simp [hl])
  rw [merged_nodup _ [] (by rw [List.nil_append, hn]; exact kk.1)] at hd
  obtain ⟨o, es, ep, ho, rest⟩ := hd
  refine q _ σ _ _ _ kk.2 (L2.trans L4) J4 (.dct ?_ ⟨o, es, ep, hz4 o ho, rest⟩ (by simp [hl]) (rs.mono L4))
  obtain ⟨bm, hn', _⟩ := cx.T.nolimit
  have hlt := (hn'.keeps fun b o e => J.zle _ _ (J.base b o e)).lt
  exact beq_eq_false_iff_ne.mpr fun e => by rw [e] at hlt; exact absurd hlt (by decide)
theorem ev_dict0 {pos : Pos} {K : AV → Sig → Prop} (k : K (.dct [] []) σ) : EvTo cx r G KE (.Dict [] [] pos) ma σ K := by
  intro A env Pr g s Q E hr hf F0 J q qe
  refine wpAny_Dict_empty ?_
  obtain ⟨L, J2, hz⟩ := J.push { cls := .type "dict", data := .dict #[] } rfl
  refine q _ σ _ _ _ k L J2 (.dct ?_ ⟨_, #[], 0, hz, ⟨rfl, rfl, rfl⟩, rfl, fun _ h => (by simp at h), (by first | exact .nil | exact List.Forall₂.nil | simp [Pairs]), List.nodup_nil⟩ rfl .nil)
  obtain ⟨bm, hn, _⟩ := cx.T.nolimit
  have hlt := (hn.keeps fun b o e => J.zle _ _ (J.base b o e)).lt
  exact beq_eq_false_iff_ne.mpr fun e => by rw [e] at hlt; exact absurd hlt (by decide)
noncomputable def dget : List Str → List AV → Str → Option AV
  | k :: ks, a :: l, x => if k = x then some a else dget ks l x
  | _, _, _ => none
theorem dget_at : ∀ {ks : List Str} {l : List AV} {vs : List Value} {x : Str}, VRs cx g l vs → ks.length = vs.length → (∀ a, dget ks l x = some a → ∃ v, valueAt (ks.zip vs) x = some v ∧ VR cx g a v) ∧ (dget ks l x = none → valueAt (ks.zip vs) x = none)
  | [], l, vs, x, h, hl => by
    cases vs with
    | nil => cases h; exact ⟨fun a e => (by simp [dget] at e), fun _ => rfl⟩
    | cons => cases hl
  | k :: ks, l, vs, x, h, hl => by
    cases h with
    | nil => cases hl
    | @cons a v l vs va rs =>
      have ih := dget_at (ks := ks) (x := x) rs (by simpa using hl)
      by_cases e : k = x
      · exact ⟨fun b hb => by
          have : b = a := by simpa [dget, e] using hb.symm
          subst this
          exact ⟨v, by simp [valueAt, e], va⟩, fun hb => by simp [dget, e] at hb⟩
      · have hv : valueAt ((k :: ks).zip (v :: vs)) x = valueAt (ks.zip vs) x := by simp [valueAt, e]
        have hd : dget (k :: ks) (a :: l) x = dget ks l x := by simp [dget, e]
        rw [hv, hd]; exact ih
theorem item_dct {ks : List Str} {l : List AV} {x : Str} {a : AV} {K : AV → Sig → Prop} (h : dget ks l x = some a) (k : K a σ) : ItemTo cx r (.dct ks l) (S x) σ K := by
  intro A Pr g s v y Q E hr J va vb q
  obtain ⟨t, rfl⟩ := str_of vb
  obtain ⟨_, _, rfl, h1, h2, h3, h4⟩ := VR.inv va
  · skip
    obtain ⟨w, hw, vw⟩ := (dget_at h4 h3).1 a h
    have hd : s.heap.DictOf (PySem.strKind cx.prog cx.w) _ _ := let ⟨o, es, ep, e, r⟩ := h2; ⟨o, es, ep, J.zle _ _ e, r⟩
    exact ⟨"dict", _, hd.typeIs, slot_dict_getitem.lookup, wpAny_getItem_of (knd := PySem.strKind cx.prog cx.w) (k := x) (by simp [PySem.strKind, Value.isStrOf]) hd.mapOf hw (q g σ _ _ _ k (.refl g) (J.toks _) vw)⟩
theorem tru_dct0 {K : Bool → Prop} (k : K false) : TruTo cx r (.dct [] []) σ K := by
  intro A Pr g s x Q E hr J va q
  obtain ⟨_, _, rfl, h1, h2, h3, h4⟩ := VR.inv va
  · skip
    have hd : s.heap.DictOf (PySem.strKind cx.prog cx.w) _ _ := let ⟨o, es, ep, e, r⟩ := h2; ⟨o, es, ep, J.zle _ _ e, r⟩
    exact wpAny_truthy_dict (knd := PySem.strKind cx.prog cx.w) h1 hd (by simp) (q _ _ k (J.toks _))
theorem ev_get {o e1 e2 : Expr} {apos pos : Pos} {K : AV → Sig → Prop} (hb : ∀ env, attributeBase o "get" env (eval o env) = eval o env)
    (hfew : ∀ env, ((backTo pos (starEach [e1, e2] env)).all (fun x => !x.1) && (backToKw pos (keywordEach [] env)).all (fun x => x.1.isSome)
      && decide (([e1, e2] : List Expr).length + ([] : List Keyword).length + (if ([] : List Keyword).isEmpty then 0 else 1) < 30)) = true)
    (hline : (apos.endLine == pos.line) = true) (htrees : ∀ env, backTo pos (starEach [e1, e2] env) = [(false, eval e1 env), (false, eval e2 env)])
    (h : EvTo cx r G KE o ma σ (fun ov σ1 => ∃ ks l, ov = .dct ks l ∧ EvTo cx r G KE e1 ma σ1 (fun a σ2 => ∃ x, a = S x ∧ EvTo cx r G KE e2 ma σ2 (fun b σ3 => K ((dget ks l x).getD b) σ3)))) : EvTo cx r G KE (.Call (.Attribute o "get" apos) [e1, e2] [] pos) ma σ K := by
  intro A env Pr g s Q E hr hf F0 J q qe
  refine wpAny_Call_method (T := "dict") (id := "dict.get") (hb env) (hfew env) hline PySem.F.plainAttrs_dict PySem.F.slot_dict_get PySem.F.type_dict_get (h A env Pr g s _ E hr hf F0 J (fun g1 σ1 s1 ov v k1 L1 J1 v1 => ?_) qe)
  obtain ⟨ks, l, rfl, k1⟩ := k1
  obtain ⟨a, vs, rfl, h1, h2, h3, h4⟩ := VR.inv v1
  · skip
    obtain ⟨ob, es, ep, hz, hx, rest⟩ := h2
    refine ⟨⟨ob, J1.zle _ _ hz, hx.1⟩, fun b e => by cases e; exact ⟨ob, J1.zle _ _ hz, hx.2.1⟩, ?_⟩
    rw [htrees env]
    refine wpAny_dict_get2 (knd := PySem.strKind cx.prog cx.w) h1 (k1 A env Pr g1 s1 _ E hr hf (F0.mono L1) J1 (fun g2 σ2 s2 b w k2 L2 J2 v2 => ?_) fun g' σ' s' e ke L => qe g' σ' s' e ke (L1.trans L))
    obtain ⟨x, rfl, k2⟩ := k2
    refine k2 A env Pr g2 s2 _ E hr hf (F0.mono (L1.trans L2)) J2 (fun g3 σ3 s3 b z k3 L3 J3 v3 => ?_) fun g' σ' s' e ke L => qe g' σ' s' e ke (L1.trans (L2.trans L))
    obtain ⟨t, rfl⟩ := str_of v2
    have hd : s3.heap.DictOf (PySem.strKind cx.prog cx.w) a (ks.zip vs) := ⟨ob, es, ep, J3.zle _ _ ((L2.trans L3).z _ _ hz), hx, rest⟩
    refine ⟨x, _, by simp [PySem.strKind, Value.isStrOf], hd.mapOf, ?_⟩
    obtain ⟨d1, d2⟩ := dget_at (x := x) (h4.mono (L2.trans L3)) h3
    cases hh : dget ks l x with
    | none =>
      rw [d2 hh]
      rw [hh] at k3
      exact q g3 σ3 _ _ _ k3 (L1.trans (L2.trans L3)) (J3.toks _) v3
    | some c =>
      obtain ⟨w, hw, vw⟩ := d1 c hh
      rw [hw]
      rw [hh] at k3
      exact q g3 σ3 _ _ _ k3 (L1.trans (L2.trans L3)) (J3.toks _) vw
end
end Mine
end
section
open PySem PySem.W PySem.Spec PySem.SeqAt PySem.Calls PyProof.Rows Builtin Builtin.ObjectAttr
set_option Elab.async false
namespace Mine
theorem put_own {prog : Program} {w : World} {A : Around} {K : Frag} {s : Shared} {x C dx : Addr} {es : List DictEntry} {n : Nat} {name : Str} {tk : Tok} {v : Value} {R : Result → Shared → Prop} (X : K.In s.heap)
    (hx : s.heap.get? x = some (instObj C dx)) (D : s.heap.get? dx = some (dictOf es n)) (hp : plainOver K C = true) (ht : takerIn K C name = some none) (hh : hasDictIn K C = true)
    (hl : (getL name es).isSome = true) (hz : (putL name (PyData.keyHash w.params name) (.str name s.toks) v es).length ≤ 1000)
    (h : ∀ h', Heap.SameBut dx s.heap h' → h'.get? dx = some (dictOf (putL name (PyData.keyHash w.params name) (.str name s.toks) v es) (putN name es n)) → R (.ok (.ret .none)) { s with heap := h', toks := s.toks + 1 }) :
    codeAny (model prog w) A (.call (.builtin "object.__setattr__") ⟨[.ref x, .str name tk, v], []⟩) R s := by
  refine osa_open X (⟨hx, rfl, rfl, D⟩ : InstAt s.heap x (instObj C dx) C (some (dictOf es n))) hp ht fun b => ?_
  obtain ⟨cd, hc, hd'⟩ := any_some hh
  refine wpAny_bind (wpAny_pure (wpAny_bind (wpAny_bind (wpAny_loadPart hx (wpAny_bind ((looks_clsIn X hc).here ?_))))))
  rw [hd']
  refine wpAny_pure (a := some dx) (wpAny_bind (wpAny_pure (wpAny_bind ?_)))
  unfold nsSet
  refine wpAny_bind (wpAny_bind (wpAny_askSetting (wpAny_pure (wpAny_bind (wpAny_mkText (wpAny_bind (wpAny_loadPart D ?_)))))))
  dsimp only
  have c : (!es.toArray.any (·.key.isStr name) && es.toArray.any (·.refKey)) = false := by
    rw [← Array.any_toList, ← Array.any_toList]
    unfold getL at hl
    split at hl
    · rename_i en he
      rw [List.any_eq_true.mpr ⟨en, List.mem_of_find?_eq_some he, List.find?_some he⟩]; rfl
    · split at hl
      · cases hl
      · rename_i z; rw [Bool.not_eq_true] at z; rw [show es.toArray.toList.any (·.refKey) = false from z, Bool.and_false]
  rw [aRefKeyMayBeTheName_at, c]
  have D' : (s.heap.update dx (Obj.putName name (PyData.keyHash w.params name) (.str name s.toks) v)).get? dx = some (dictOf (putL name (PyData.keyHash w.params name) (.str name s.toks) v es) (putN name es n)) := by
    have := Heap.get?_update_self (Obj.putName name (PyData.keyHash w.params name) (.str name s.toks) v) D (by rw [putName_dict]; rfl)
    rwa [putName_dict] at this
  refine wpAny_updatePart D ?_
  refine wpAny_bind (wpAny_lookBehind D' (pastItsLine_dict (by rw [List.size_toArray, sizeLine_eq]; omega)) ?_)
  exact wpAny_pure (h _ (Heap.SameBut.update ..) D')
inductive FldsR (R : AV → Value → Prop) : List (Str × AV) → List DictEntry → Prop
  | nil : FldsR R [] []
  | cons {h n t a v fs es} : R a v → FldsR R fs es → FldsR R ((n, a) :: fs) (⟨h, .str n t, v⟩ :: es)
theorem FldsR.put {R : AV → Value → Prop} {nm : Str} {hs : Int} {t : Tok} {v : Value} {a : AV} (r : R a v) : ∀ {fs es}, FldsR R fs es → nm ∉ fs.map (·.1) → getL nm es = some none ∧ putL nm hs (.str nm t) v es = es ++ [⟨hs, .str nm t, v⟩] ∧ FldsR R (fs ++ [(nm, a)]) (es ++ [⟨hs, .str nm t, v⟩])
  | _, _, .nil, _ => ⟨rfl, rfl, .cons r .nil⟩
  | _, _, .cons (n := n) (t := t') x y, hn => by
    simp only [List.map_cons, List.mem_cons, not_or] at hn
    obtain ⟨h1, h2, h3⟩ := y.put (hs := hs) (t := t) r hn.2
    have ne : (Value.str n t').isStr nm = false := by
      simp only [Value.isStr]
      exact beq_eq_false_iff_ne.mpr fun e => hn.1 e.symm
    refine ⟨?_, ?_, .cons x h3⟩
    · unfold getL at h1 ⊢
      simp only [List.find?_cons, ne, List.any_cons]
      exact h1
    · simp only [putL, ne, Bool.false_eq_true, if_false, h2, List.cons_append]
theorem FldsR.length {R : AV → Value → Prop} : ∀ {fs es}, FldsR R fs es → es.length = fs.length
  | _, _, .nil => rfl
  | _, _, .cons _ y => congrArg (· + 1) y.length
inductive Ini (R : AV → Value → Prop) (env : Env) (m : Str → Option Value) (sx : Str) : List Stmt → List (Str × AV) → Prop
  | nil : Ini R env m sx [] []
  | name {p1 p2 pos py nm y v a r ps} : env.kindOf y = some .local → (y == ("__debug__" : Str)) = false → m y = some v → R a v → Ini R env m sx r ps → Ini R env m sx (.Assign [.Attribute (.Name sx p1) nm p2] (.Name y py) pos :: r) ((nm, a) :: ps)
  | str {p1 p2 pos c k py nm r ps} : (∀ t, R (S c) (.str c t)) → Ini R env m sx r ps → Ini R env m sx (.Assign [.Attribute (.Name sx p1) nm p2] (.Constant (.str c) k py) pos :: r) ((nm, S c) :: ps)
  | none {p1 p2 pos k py nm r ps} : R N .none → Ini R env m sx r ps → Ini R env m sx (.Assign [.Attribute (.Name sx p1) nm p2] (.Constant .none k py) pos :: r) ((nm, N) :: ps)
  | bool {p1 p2 pos b k py nm r ps} : R (B b) (.bool b) → Ini R env m sx r ps → Ini R env m sx (.Assign [.Attribute (.Name sx p1) nm p2] (.Constant (.bool b) k py) pos :: r) ((nm, B b) :: ps)
noncomputable def Sh (s s' : Shared) : Prop := s'.gens = s.gens ∧ s'.os = s.os ∧ s'.drawn = s.drawn
section
variable {cx : Cx} {A : Around} {env : Env} {m : Str → Option Value} {R : AV → Value → Prop} {sx : Str} {x C dx : Addr} {Q : Flow → Shared → Prop} {E : Value → Shared → Prop}
theorem ini_run (hk : env.scope.kind = .function) (hsx : env.kindOf sx = some .local) (hsd : (sx == ("__debug__" : Str)) = false) (hms : m sx = some (.ref x))
    (hset : findIn cx.K (.ref C) "__setattr__" = some (some (.builtin "object.__setattr__"))) (hp : plainOver cx.K C = true) (hh : hasDictIn cx.K C = true) (hxd : x ≠ dx) (hLd : env.locals ≠ dx) :
    ∀ {sts : List Stmt} {ps : List (Str × AV)}, Ini R env m sx sts ps → (∀ p ∈ ps, takerIn cx.K C p.1 = some none) → ∀ {s : Shared} {es : List DictEntry} {n : Nat} {fs : List (Str × AV)}, FldsR R fs es → ((fs ++ ps).map (·.1)).Nodup → (fs ++ ps).length ≤ 1000 →
      s.heap.Ns env.locals m → cx.K.In s.heap → (∀ a o, cx.K.lookup a = some o → a ≠ dx) → s.heap.get? x = some (instObj C dx) → s.heap.get? dx = some (dictOf es n) →
      (∀ s' es' n', FldsR R (fs ++ ps) es' → Heap.SameBut dx s.heap s'.heap → s'.heap.get? dx = some (dictOf es' n') → Sh s s' → Q .next s') → wpAny (model cx.prog cx.w) A (execs sts env) Q E s := by
  intro sts ps I
  -- one row
  have step : ∀ {p1 p2 pos nm value a v} {s : Shared} {es : List DictEntry} {n : Nat} {fs : List (Str × AV)} {Q : Flow → Shared → Prop}, (∀ Q' : Value → Shared → Prop, (∀ t, Q' v { s with toks := t }) → wpAny (model cx.prog cx.w) A (eval value env) Q' E s) →
      swapsWith value (some (.Attribute (.Name sx p1) nm p2)) (pos : Pos).line env = pure false → takerIn cx.K C nm = some none → R a v → FldsR R fs es → nm ∉ fs.map (·.1) → fs.length < 1000 → s.heap.Ns env.locals m → cx.K.In s.heap → s.heap.get? x = some (instObj C dx) → s.heap.get? dx = some (dictOf es n) →
      (∀ s' es' n', FldsR R (fs ++ [(nm, a)]) es' → Heap.SameBut dx s.heap s'.heap → s'.heap.get? dx = some (dictOf es' n') → Sh s s' → Q .next s') → wpAny (model cx.prog cx.w) A (exec (.Assign [.Attribute (.Name sx p1) nm p2] value pos) env) Q E s := by
    intro p1 p2 pos nm value a v s es n fs Q hev hsw ht ra fr hnm hlen hn X hx hd q
    refine plainObj_wpAny_Assign_Attribute (hev _ fun t => ?_) hsw
    refine wpAny_Name (wpAny_loadName_local hk hsx hn hms ?_) hsd
    obtain ⟨g1, g2, g3⟩ := fr.put (nm := nm) (hs := PyData.keyHash cx.w.params nm) (t := t + 1) ra hnm
    refine set_plain (s := { s with toks := t }) X (⟨hx, rfl, rfl, hd⟩ : InstAt s.heap x (instObj C dx) C (some (dictOf es n))) hset ?_
    refine put_own (s := { s with toks := t + 1 }) X hx hd hp ht hh (by rw [g1]; rfl) (by rw [g2, List.length_append, fr.length]; simp; omega) fun h' hs ho => ?_
    rw [g2] at ho
    exact q _ _ _ g3 hs ho ⟨rfl, rfl, rfl⟩
  have more : ∀ {nm a ps r} {st : Stmt} {s : Shared} {es : List DictEntry} {n : Nat} {fs : List (Str × AV)},
      (∀ {Q : Flow → Shared → Prop}, (∀ s' es' n', FldsR R (fs ++ [(nm, a)]) es' → Heap.SameBut dx s.heap s'.heap → s'.heap.get? dx = some (dictOf es' n') → Sh s s' → Q .next s') → wpAny (model cx.prog cx.w) A (exec st env) Q E s) →
      (∀ {s : Shared} {es : List DictEntry} {n : Nat} {fs : List (Str × AV)}, FldsR R fs es → ((fs ++ ps).map (·.1)).Nodup → (fs ++ ps).length ≤ 1000 →
      s.heap.Ns env.locals m → cx.K.In s.heap → (∀ a o, cx.K.lookup a = some o → a ≠ dx) → s.heap.get? x = some (instObj C dx) → s.heap.get? dx = some (dictOf es n) →
      (∀ s' es' n', FldsR R (fs ++ ps) es' → Heap.SameBut dx s.heap s'.heap → s'.heap.get? dx = some (dictOf es' n') → Sh s s' → Q .next s') → wpAny (model cx.prog cx.w) A (execs r env) Q E s) →
      ((fs ++ (nm, a) :: ps).map (·.1)).Nodup → (fs ++ (nm, a) :: ps).length ≤ 1000 → s.heap.Ns env.locals m → cx.K.In s.heap → (∀ a o, cx.K.lookup a = some o → a ≠ dx) → s.heap.get? x = some (instObj C dx) →
      (∀ s' es' n', FldsR R (fs ++ (nm, a) :: ps) es' → Heap.SameBut dx s.heap s'.heap → s'.heap.get? dx = some (dictOf es' n') → Sh s s' → Q .next s') → wpAny (model cx.prog cx.w) A (execs (st :: r) env) Q E s := by
    intro nm a ps r st s es n fs h1 h2 nd hlen hn X hK hx q
    refine wpAny_execs_cons (h1 fun s1 es1 n1 f1 b1 d1 e1 => ?_)
    have eq : fs ++ (nm, a) :: ps = (fs ++ [(nm, a)]) ++ ps := by simp
    rw [eq] at nd hlen
    have hn1 : s1.heap.Ns env.locals m := let ⟨o, es, ep, e, r⟩ := hn; ⟨o, es, ep, (b1.2 _ hLd).trans e, r⟩
    refine h2 f1 nd hlen hn1 (fun b o e => (b1.2 b (hK b o e)).trans (X b o e)) hK ((b1.2 x hxd).trans hx) d1 fun s2 es2 n2 f2 b2 d2 e2 => ?_
    exact q s2 es2 n2 (by rw [eq]; exact f2) ⟨b2.1.trans b1.1, fun b hb => (b2.2 b hb).trans (b1.2 b hb)⟩ d2 ⟨e2.1.trans e1.1, e2.2.1.trans e1.2.1, e2.2.2.trans e1.2.2⟩
  induction I with
  | nil =>
    intro _ s es n fs fr nd hlen hn X hK hx hd q
    exact wpAny_execs_nil (q s es n (by simpa using fr) ⟨rfl, fun _ _ => rfl⟩ hd ⟨rfl, rfl, rfl⟩)
  | @name p1 p2 pos py nm y v a r ps hy hyd hmy ra I ih =>
    intro ht s es n fs fr nd hlen hn X hK hx hd q
    have hnm : nm ∉ fs.map (·.1) := fun z => by
      rw [List.map_append, List.map_cons, List.nodup_append] at nd
      exact nd.2.2 nm z nm List.mem_cons_self rfl
    refine more (es := es) (n := n) (fun {Q} q => step (fun Q' q' => wpAny_Name (wpAny_loadName_local hk hy hn hmy (q' s.toks)) hyd) rfl (ht _ List.mem_cons_self) ra fr hnm (by simp at hlen; omega) hn X hx hd q) (ih fun p hp => ht p (List.mem_cons_of_mem _ hp)) nd hlen hn X hK hx q
  | @str p1 p2 pos c k py nm r ps ra I ih =>
    intro ht s es n fs fr nd hlen hn X hK hx hd q
    have hnm : nm ∉ fs.map (·.1) := fun z => by
      rw [List.map_append, List.map_cons, List.nodup_append] at nd
      exact nd.2.2 nm z nm List.mem_cons_self rfl
    refine more (es := es) (n := n) (fun {Q} q => step (v := .str c s.toks) (fun Q' q' => wpAny_Constant_str (q' _)) rfl (ht _ List.mem_cons_self) (ra _) fr hnm (by simp at hlen; omega) hn X hx hd q) (ih fun p hp => ht p (List.mem_cons_of_mem _ hp)) nd hlen hn X hK hx q
  | @none p1 p2 pos k py nm r ps ra I ih =>
    intro ht s es n fs fr nd hlen hn X hK hx hd q
    have hnm : nm ∉ fs.map (·.1) := fun z => by
      rw [List.map_append, List.map_cons, List.nodup_append] at nd
      exact nd.2.2 nm z nm List.mem_cons_self rfl
    refine more (es := es) (n := n) (fun {Q} q => step (v := .none) (fun Q' q' => wpAny_Constant_none (q' s.toks)) rfl (ht _ List.mem_cons_self) ra fr hnm (by simp at hlen; omega) hn X hx hd q) (ih fun p hp => ht p (List.mem_cons_of_mem _ hp)) nd hlen hn X hK hx q
  | @bool p1 p2 pos b k py nm r ps ra I ih =>
    intro ht s es n fs fr nd hlen hn X hK hx hd q
    have hnm : nm ∉ fs.map (·.1) := fun z => by
      rw [List.map_append, List.map_cons, List.nodup_append] at nd
      exact nd.2.2 nm z nm List.mem_cons_self rfl
    refine more (es := es) (n := n) (fun {Q} q => step (v := .bool b) (fun Q' q' => wpAny_Constant_bool (q' s.toks)) rfl (ht _ List.mem_cons_self) ra fr hnm (by simp at hlen; omega) hn X hx hd q) (ih fun p hp => ht p (List.mem_cons_of_mem _ hp)) nd hlen hn X hK hx q
end
end Mine
end
section
open PySem PySem.W PySem.Spec PySem.SeqAt PySem.Calls PyProof.Rows Builtin Builtin.ObjectAttr
set_option Elab.async false
namespace Mine
section
variable {cx : Cx} {r : Nat} {G : Glo} {KE : Sig → Prop} {Pr : Addr → Option Obj} {g : Gh} {s : Shared} {ma : Loc} {σ : Sig}
inductive ClsOk (K0 : Frag) (n : Str) (fn : List Str) (k : Nat) (mk : Value → List Value → List (Str × Value)) (ps : List AV → List (Str × AV)) : Addr → Prop
  | mk {C fI : Addr} {oc : Value} {od : Option Addr} {osl : Array (Option Value)} {name qual : Str} {params : Arguments} {body : List Stmt} {scope : Scope} {dV kV doc pm cdv ct : Value} {an : Option Addr}
    (h0 : nsIn K0 mainGlobals n = some (some (.ref C))) (hm : makesIn K0 C = true) (hi : findIn K0 (.ref C) "__init__" = some (some (.ref fI))) (hf : typeIn K0 (.ref fI) = some (.type "function"))
    (hset : findIn K0 (.ref C) "__setattr__" = some (some (.builtin "object.__setattr__"))) (hp : plainOver K0 C = true) (hh : hasDictIn K0 C = true) (ht : ∀ f ∈ fn, takerIn K0 C f = some none)
    (h2 : K0.lookup fI = some ⟨oc, od, .func (fnOf name qual params body scope dV kV doc pm an cdv ct), osl⟩) (h3 : codeIn K0 cdv qual = true)
    (hb : ∀ s x vs, vs.length = k → K0.In s.heap → BindsTo s (fnOf name qual params body scope dV kV doc pm an cdv ct) ⟨.ref x :: vs, []⟩ (mk (.ref x) vs))
    (hcell : ∀ x ∈ scope.names, x.2 ≠ .cell) (hloc : ∀ x vs, vs.length = k → ∀ y ∈ mk x vs, scope.names.lookup y.1 = some .local)
    (hco : scope.isCoroutine = false) (hgen : scope.isGenerator = false) (hk : scope.kind = .function)
    (hs : scope.names.lookup ("self" : Str) = some .local)
    (hself : ∀ x vs, vs.length = k → (mk x vs).reverse.lookup ("self" : Str) = some x)
    (ini : ∀ (R : AV → Value → Prop) (L x : Addr) (avs : List AV) (vs : List Value), vs.length = k → avs.length = k → (∀ (i : Nat) (a : AV) (v : Value), avs[i]? = some a → vs[i]? = some v → R a v) → R N .none → (∀ b, R (B b) (.bool b)) → (∀ c t, R (S c) (.str c t)) →
      Ini R (envOf qual scope L fI cdv) (fun y => (mk (.ref x) vs).reverse.lookup y) "self" body (ps avs)) : ClsOk K0 n fn k mk ps C
theorem make_run {K0 : Frag} {n : Str} {fn : List Str} {k : Nat} {mk : Value → List Value → List (Str × Value)} {ps : List AV → List (Str × AV)} {C : Addr} {A : Around} {avs : List AV} {vs : List Value} {Q : Value → Shared → Prop} {E : Value → Shared → Prop}
    (O : ClsOk K0 n fn k mk ps C) (hK : cx.K = K0) (hr : Room 1 A) (J : Inv cx Pr σ g s) (hl : avs.length = k) (va : VRs cx g avs vs) (hfn : (ps avs).map (·.1) = fn) (hnd : fn.Nodup) (hlen : fn.length ≤ 1000)
    (q : ∀ s' x dx es n, x ≠ dx → s.heap.get? x = none → s.heap.get? dx = none → (∀ b o, s.heap.get? b = some o → s'.heap.get? b = some o) → s'.heap.get? x = some (instObj C dx) → s'.heap.get? dx = some (dictOf es n) → FldsR (VR cx g) (ps avs) es → Sh s s' → Q (.ref x) s') :
    wpAny (model cx.prog cx.w) A (call (.ref C) vs) Q E s := by
  subst hK
  cases O with
  | @mk fI oc od osl name qual params body scope dV kV doc pm cdv ct an h0 hm hi hf hset hp hh ht h2 h3 hb hcell hloc hco hgen hk hs hself ini =>
    have X := kin J
    have hvl : vs.length = k := by rw [← hl, va.length]
    obtain ⟨h, gn, dr, t, os⟩ := s
    have X' : cx.K.In ((h.push emptyDict).push (instObj C h.objs.size)) := fun a o e => Heap.get?_push_of_some _ (Heap.get?_push_of_some _ (X a o e))
    refine wpAny_call (make_core (makes_of X hm) (looks_findIn X hi) (fun self => bind_fn X self hf) (.inl rfl) ?_)
    refine codeAny_call_def (fd := fnOf name qual params body scope dV kV doc pm an cdv ct) (body := body) (binds := mk (.ref (h.objs.size + 1)) vs) (by rw [depth_under_make]; unfold Room at hr; omega) (X' _ _ h2) rfl
      (cx.T.nolimit.keeps fun b o e => Heap.get?_push_of_some _ (Heap.get?_push_of_some _ (J.zle _ _ (J.base _ _ e)))) (codeRec_of X' h3) rfl (hb _ _ vs hvl X') hcell (hloc _ _ hvl) (fun h1 hns keep => ?_) hco hgen hk
    have hxs : ((h.push emptyDict).push (instObj C h.objs.size)).objs.size = h.objs.size + 2 := by rw [Heap.size_push, Heap.size_push]
    have hd0 : ((h.push emptyDict).push (instObj C h.objs.size)).get? h.objs.size = some (dictOf [] 0) := Heap.get?_push_of_some _ (Heap.get?_push_size _ rfl)
    have hx0 : ((h.push emptyDict).push (instObj C h.objs.size)).get? (h.objs.size + 1) = some (instObj C h.objs.size) := by
      have := Heap.get?_push_size (h := h.push emptyDict) (o := instObj C h.objs.size) rfl
      rwa [Heap.size_push] at this
    have frd : h.get? h.objs.size = none := get_none_of_size (Nat.le_refl _)
    have frx : h.get? (h.objs.size + 1) = none := get_none_of_size (Nat.le_succ _)
    have I := ini (VR cx g) ((h.push emptyDict).push (instObj C h.objs.size)).objs.size (h.objs.size + 1) avs vs hvl hl (fun i a v e1 e2 => by
      obtain ⟨v', e3, vr⟩ := va.get e1
      rw [e2] at e3; cases e3; exact vr) vr_none (fun _ => vr_bool) fun _ _ => vr_str
    refine ini_run (env := envOf qual scope ((h.push emptyDict).push (instObj C h.objs.size)).objs.size fI cdv) (sx := "self") (x := h.objs.size + 1) (dx := h.objs.size) (C := C) hk hs (by decide) (hself _ _ hvl) hset hp hh (Nat.succ_ne_self _)
      (by show ((h.push emptyDict).push (instObj C h.objs.size)).objs.size ≠ _; rw [hxs]; omega) I (fun p hp => ht _ (hfn ▸ List.mem_map_of_mem hp)) (s := { heap := h1, gens := gn, drawn := dr, toks := t + (mk (.ref (h.objs.size + 1)) vs).length, os := os })
      (es := []) (n := 0) (fs := []) .nil (by rw [List.nil_append, hfn]; exact hnd) (by rw [List.nil_append, ← List.length_map (f := (·.1)), hfn]; exact hlen) hns (fun a o e => keep _ _ (X' _ _ e)) (fun a o e z => by
        have := X _ _ e
        rw [z, frd] at this; cases this) (keep _ _ hx0) (keep _ _ hd0) fun s' es' n' fr hsb hd' hsh => ?_
    refine ⟨rfl, ?_⟩
    refine q s' (h.objs.size + 1) h.objs.size es' n' (Nat.succ_ne_self _) frx frd (fun b o e => ?_) ?_ hd' (by simpa using fr) hsh
    · exact (hsb.2 b fun z => by rw [z, frd] at e; cases e).trans (keep _ _ (Heap.get?_push_of_some _ (Heap.get?_push_of_some _ e)))
    · exact (hsb.2 _ (Nat.succ_ne_self _)).trans (keep _ _ hx0)
theorem unk_of (J : Inv cx Pr σ g s) {a : Addr} (h : s.heap.get? a = none) : Unk Pr σ g a := ⟨J.z_fresh h, J.p_fresh h, J.v_fresh h, J.s_fresh h⟩
theorem Unk.add {h : Heap} {a b : Addr} (u : Unk Pr σ g a) (n : a ≠ b) : Unk Pr σ (g.add h [b]) a := ⟨g.add_none u.1 fun q => n (List.mem_singleton.mp q), u.2⟩
theorem Inv.sh (J : Inv cx Pr σ g s) {s' : Shared} (k : ∀ b o, s.heap.get? b = some o → s'.heap.get? b = some o) (e : Sh s s') : Inv cx Pr σ g s' := by
  have J' := J.keep (h' := s'.heap) s'.toks k
  exact { zle := J'.zle, base := J'.base, pr := J'.pr, sg := J'.sg, nd := J'.nd, vd := J'.vd, gens := e.1.trans J.gens, os := e.2.1.trans J.os, dr := e.2.2.trans J.dr }
theorem FldsR.head {R : AV → Value → Prop} {n : Str} {a : AV} {fs : List (Str × AV)} {es : List DictEntry} (h : FldsR R ((n, a) :: fs) es) : ∃ hs t v es', es = ⟨hs, .str n t, v⟩ :: es' ∧ R a v ∧ FldsR R fs es' := by
  cases h with | cons x y => exact ⟨_, _, _, _, rfl, x, y⟩
theorem FldsR.nil_inv {R : AV → Value → Prop} {es : List DictEntry} (h : FldsR R [] es) : es = [] := by cases h; rfl
inductive ClsW (K0 : Frag) (n : Str) (fn : List Str) (k : Nat) (mk : Value → List Value → List (Str × Value)) (ps : List AV → List (Str × AV)) : Prop
  | mk {C : Addr} (w0 : nsIn K0 mainGlobals n = some (some (.ref C))) (wk : keepIn K0 (.ref C) = true) (wo : ClsOk K0 n fn k mk ps C) : ClsW K0 n fn k mk ps
noncomputable abbrev fVec : List Str := ["kind", "items", "attrs", "shared", "loose"]
noncomputable abbrev pVec : List AV → List (Str × AV) | [a, b] => [("kind", a), ("items", b), ("attrs", N), ("shared", B false), ("loose", B false)] | _ => []
theorem cal_vec {K0 : Frag} {mk : Value → List Value → List (Str × Value)} (W : ClsW K0 "Vector" fVec 2 mk pVec) (hK : cx.K = K0) {k : Str} {items : List PyData} {K : AV → Sig → Prop} (kk : K (.vec k items) σ) :
    CalTo cx (r + 1) KE (.fn "Vector") [S k, .d (.list items)] σ K := by
  obtain ⟨h0, hkp, O⟩ := W
  rw [← hK] at h0
  refine ⟨keep_fn h0 (hK ▸ hkp), ?_⟩
  intro A Pr g s fv vs Q E hr hf J vf va q qe
  have e := fn_of vf
  · skip
    rw [h0] at e; cases e
    refine make_run O hK (hr.le (by omega)) J rfl va rfl (by decide) (by decide) fun s' x dx es n hxd fx fd keep hx hd fr sh => ?_
    have J1 := J.sh keep sh
    have ux := unk_of J fx
    have ud := unk_of J fd
    obtain ⟨L2, J2, z2⟩ := J1.adopt ux
    have ud2 : Unk Pr σ (g.add s'.heap [x]) dx := ud.add (Ne.symm hxd)
    obtain ⟨h1, t1, v1, es1, rfl, r1, fr⟩ := fr.head
    obtain ⟨h2, t2, v2, es2, rfl, r2, fr⟩ := fr.head
    obtain ⟨h3, t3, v3, es3, rfl, r3, fr⟩ := fr.head
    obtain ⟨h4, t4, v4, es4, rfl, r4, fr⟩ := fr.head
    obtain ⟨h5, t5, v5, es5, rfl, r5, fr⟩ := fr.head
    obtain rfl := fr.nil_inv
    obtain ⟨t, rfl⟩ := str_of r1
    obtain rfl := none_of r3
    obtain rfl := bool_of r4
    obtain rfl := bool_of r5
    obtain ⟨L3, J3⟩ := J2.newVec (d := dx) (kv := .str k t) (iv := v2) ud2.1 ud2.2.1 ud2.2.2.2 ud2.2.2.1 ⟨hd, ⟨h1, h2, h3, h4, h5, t1, t2, t3, t4, t5, false, n⟩⟩
    cases r2 with
    | d rd => exact q _ σ _ _ _ kk (L2.trans L3) J3 (.vec h0 (z2 _ hx) (if_pos rfl) (Reads.keeps L2.z rd))
noncomputable abbrev fSym : List Str := ["kind", "name", "attrs"]
noncomputable abbrev pSym : List AV → List (Str × AV) | [a] => [("kind", S "symbol"), ("name", a), ("attrs", N)] | _ => []
theorem cal_sym {K0 : Frag} {mk : Value → List Value → List (Str × Value)} (W : ClsW K0 "Symbol" fSym 1 mk pSym) (hK : cx.K = K0) {nm : Str} {K : AV → Sig → Prop} (kk : K (.sym nm) σ) :
    CalTo cx (r + 1) KE (.fn "Symbol") [S nm] σ K := by
  obtain ⟨h0, hkp, O⟩ := W
  rw [← hK] at h0
  refine ⟨keep_fn h0 (hK ▸ hkp), ?_⟩
  intro A Pr g s fv vs Q E hr hf J vf va q qe
  have e := fn_of vf
  · skip
    rw [h0] at e; cases e
    refine make_run O hK (hr.le (by omega)) J rfl va rfl (by decide) (by decide) fun s' x dx es n hxd fx fd keep hx hd fr sh => ?_
    have J1 := J.sh keep sh
    have ux := unk_of J fx
    have ud := unk_of J fd
    obtain ⟨L2, J2, z2⟩ := J1.adopt ux
    have ud2 : Unk Pr σ (g.add s'.heap [x]) dx := ud.add (Ne.symm hxd)
    obtain ⟨L3, J3, z3⟩ := J2.adopt ud2
    obtain ⟨h1, t1, v1, es1, rfl, r1, fr⟩ := fr.head
    obtain ⟨h2, t2, v2, es2, rfl, r2, fr⟩ := fr.head
    obtain ⟨h3, t3, v3, es3, rfl, r3, fr⟩ := fr.head
    obtain rfl := fr.nil_inv
    obtain ⟨t, rfl⟩ := str_of r1
    obtain ⟨u, rfl⟩ := str_of r2
    obtain rfl := none_of r3
    exact q _ σ _ _ _ kk (L2.trans L3) J3 (.sym h0 (L3.z _ _ (z2 _ hx)) (z3 _ hd) rfl rfl rfl)
noncomputable abbrev fCal : List Str := ["kind", "items", "tags", "attrs", "code"]
noncomputable abbrev pCal : List AV → List (Str × AV) | [a, b] => [("kind", S "language"), ("items", a), ("tags", b), ("attrs", N), ("code", N)] | _ => []
theorem cal_cal {K0 : Frag} {mk : Value → List Value → List (Str × Value)} (W : ClsW K0 "Call" fCal 2 mk pCal) (hK : cx.K = K0) {items : List AV} {tags : List PyData} {K : AV → Sig → Prop} (kk : K (.call items tags) σ) :
    CalTo cx (r + 1) KE (.fn "Call") [.lst items, .d (.list tags)] σ K := by
  obtain ⟨h0, hkp, O⟩ := W
  rw [← hK] at h0
  refine ⟨keep_fn h0 (hK ▸ hkp), ?_⟩
  intro A Pr g s fv vs Q E hr hf J vf va q qe
  have e := fn_of vf
  · skip
    rw [h0] at e; cases e
    refine make_run O hK (hr.le (by omega)) J rfl va rfl (by decide) (by decide) fun s' x dx es n hxd fx fd keep hx hd fr sh => ?_
    have J1 := J.sh keep sh
    have ux := unk_of J fx
    have ud := unk_of J fd
    obtain ⟨L2, J2, z2⟩ := J1.adopt ux
    have ud2 : Unk Pr σ (g.add s'.heap [x]) dx := ud.add (Ne.symm hxd)
    obtain ⟨L3, J3, z3⟩ := J2.adopt ud2
    obtain ⟨h1, t1, v1, es1, rfl, r1, fr⟩ := fr.head
    obtain ⟨h2, t2, v2, es2, rfl, r2, fr⟩ := fr.head
    obtain ⟨h3, t3, v3, es3, rfl, r3, fr⟩ := fr.head
    obtain ⟨h4, t4, v4, es4, rfl, r4, fr⟩ := fr.head
    obtain ⟨h5, t5, v5, es5, rfl, r5, fr⟩ := fr.head
    obtain rfl := fr.nil_inv
    obtain ⟨t, rfl⟩ := str_of r1
    obtain rfl := none_of r4
    cases r2 with
    | lst zi ri =>
      cases r3 with
      | d rt => exact q _ σ _ _ _ kk (L2.trans L3) J3 (.call h0 (L3.z _ _ (z2 _ hx)) (z3 _ hd) rfl rfl rfl rfl ((L2.trans L3).z _ _ zi) (ri.mono (L2.trans L3)) (Reads.keeps (L2.trans L3).z rt))
end
end Mine
end
section
open PySem PySem.W PySem.Spec PySem.SeqAt PySem.Calls PyProof.Rows Builtin Builtin.ObjectAttr
set_option Elab.async false
set_option maxRecDepth 100000
namespace Mine
section
variable {prog : Program} {w : World} {A : Around} {K : Frag} {s : Shared} {R : Result → Shared → Prop} {E : Value → Shared → Prop}
theorem put_exc {x C : Addr} {fs : Array Value} {name : Str} {tk : Tok} {v : Value} {cd : ClassData} (X : K.In s.heap) (hx : s.heap.get? x = some { cls := .ref C, data := .fields fs }) (hc : clsIn K C = some cd) (hd : cd.hasDict = true)
    (hmro : cd.mro.isEmpty = false) (hobj : cd.mro.contains (.type "object") = true) (hpass : ∀ self : Value, refuseLoop self "__setattr__" cd.mro = pure ()) (ht : takerIn K C name = some none)
    (h : ∀ h' d, (∀ b o, b ≠ x → s.heap.get? b = some o → h'.get? b = some o) → h'.get? x = some { cls := .ref C, dict := some d, data := .fields fs } → R (.ok (.ret .none)) { s with heap := h', toks := s.toks + 1 }) :
    codeAny (model prog w) A (.call (.builtin "object.__setattr__") ⟨[.ref x, .str name tk, v], []⟩) R s := by
  have SF := PySem.F.store_object
  have I : InstAt s.heap x { cls := .ref C, data := .fields fs } C none := ⟨hx, rfl, rfl, trivial⟩
  have sub : Looks (model prog w) s.heap (isInstance (.ref x) (.type "object")) true := I.type.andThen (looks_mroIn X (by unfold mroIn; rw [hc, Option.bind_some, if_neg (by rw [hmro]; decide), hobj]))
  refine codeAny_call_builtin SF.slot.plain SF.entry (@check_slot (model prog w) _ _ s "object.__setattr__" "object" "__setattr__" (.ref x) [.str name tk, v] [] _ SF.kind SF.split sub (SF.args (.ref x) (.str name tk) v) ?_)
  obtain ⟨attr, ha, hr⟩ := Option.bind_eq_some_iff.mp ht
  have hm : Looks (model prog w) s.heap (mroOf (.ref C)) cd.mro := (looks_clsIn X hc).andThen .now
  have L3 : Looks (model prog w) s.heap (storeTaker? attr) none := by
    cases attr with
    | none => exact .now
    | some a =>
      obtain ⟨b, hb, e⟩ := Option.map_eq_some_iff.mp hr
      refine (looks_takesIn X hb).andThen ?_
      cases b with
      | true => cases e
      | false => exact .now
  rw [osa_eq, refuse_eq]
  refine wpAny_bind (wpAny_bind (I.type.here (wpAny_bind (hm.here ?_))))
  rw [hpass]
  refine wpAny_pure (wpAny_bind (I.type.here (wpAny_bind ((looks_findIn X ha).here (wpAny_bind (L3.here ?_))))))
  show wpAny _ _ (storeInOwnDict (.ref x) (.ref C) (.str name tk) name v attr.isSome) _ _ _
  refine wpAny_bind (wpAny_pure (wpAny_bind (wpAny_bind (wpAny_loadPart hx (wpAny_bind ((looks_clsIn X hc).here ?_))))))
  rw [hd]
  have hxs : x ≠ s.heap.objs.size := Nat.ne_of_lt (Heap.lt_size hx)
  have hx1 : (s.heap.push { cls := .type "dict", data := .dict #[] }).get? x = some { cls := .ref C, data := .fields fs } := Heap.get?_push_of_some _ hx
  refine wpAny_bind (wpAny_alloc (wpAny_bind (wpAny_update hx1 (wpAny_pure ?_))))
  have hx2 : ((s.heap.push { cls := .type "dict", data := .dict #[] }).update x fun o => { cls := o.cls, dict := some s.heap.objs.size, data := o.data, slots := o.slots }).get? x = some { cls := .ref C, dict := some s.heap.objs.size, data := .fields fs } :=
    Heap.get?_update_self _ hx1 rfl
  have D : ((s.heap.push { cls := .type "dict", data := .dict #[] }).update x fun o => { cls := o.cls, dict := some s.heap.objs.size, data := o.data, slots := o.slots }).get? s.heap.objs.size = some (dictOf [] 0) :=
    (Heap.get?_update_ne _ _ _ _ (Ne.symm hxs)).trans (Heap.get?_push_size _ rfl)
  show wpAny _ _ (storeInDict s.heap.objs.size (.str name tk) name v) _ _ _
  unfold storeInDict newKeyGuard
  refine wpAny_bind (wpAny_pure (wpAny_bind ?_))
  unfold nsSet
  refine wpAny_bind (wpAny_bind (wpAny_askSetting (wpAny_pure (wpAny_bind (wpAny_mkText (wpAny_bind (wpAny_loadPart D ?_)))))))
  dsimp only
  have D2 := Heap.get?_update_self (Obj.putName name (PyData.keyHash w.params name) (.str name s.toks) v) D (by rw [putName_dict]; rfl)
  rw [putName_dict] at D2
  rw [aRefKeyMayBeTheName_at, show ((!(#[] : Array DictEntry).any (·.key.isStr name) && (#[] : Array DictEntry).any (·.refKey)) = false) from by simp]
  refine wpAny_updatePart D ?_
  refine wpAny_bind (wpAny_lookBehind D2 (pastItsLine_dict (by rw [List.size_toArray, sizeLine_eq]; simp [putL])) ?_)
  refine wpAny_pure (h _ s.heap.objs.size (fun b o n e => ?_) ?_)
  · exact (Heap.get?_update_ne _ _ _ _ (Nat.ne_of_lt (Heap.lt_size e))).trans ((Heap.get?_update_ne _ _ _ _ n).trans (Heap.get?_push_of_some _ e))
  · exact (Heap.get?_update_ne _ _ _ _ hxs).trans hx2
inductive RefAt (K0 : Frag) : Addr → Prop
  | mk {C B0 fI c1 : Addr} {nm q : Str} {N : Addr} {bs : List Value} {hdct : Bool} {sn : List Str} {sub : List Value} {ab : Bool} {col : Option Bool} {dd : Option Addr} {k0 k1 k2 k3 k5 : Option Value} {c0 : Value} {ddB : Option Addr} {cdB : ClassData} {slB : Array (Option Value)} {oN : Obj} {es : Array DictEntry} {ep : Nat}
    {oc : Value} {od : Option Addr} {osl : Array (Option Value)} {name qual : Str} {params : Arguments} {scope : Scope} {dV kV doc pm cdv ct : Value} {an : Option Addr} {p1 p2 p3 p4 : Pos}
    (hC : K0.lookup C = some (excClassObj nm q C N bs [.ref B0, .type "Exception", .type "BaseException", .type "object"] hdct sn sub ab col dd k0 k1 k2 k3 k5 "Exception.__new__"))
    (hB : K0.lookup B0 = some { cls := c0, dict := ddB, data := .cls cdB, slots := slB }) (hN : K0.lookup cdB.ns = some oN) (hNd : oN.data = .dict es ep) (hsk : StrKeys es) (hni : nsFind es "__init__" = none)
    (hi : findIn K0 (.ref C) "__init__" = some (some (.ref fI))) (hf : typeIn K0 (.ref fI) = some (.type "function"))
    (hset : findIn K0 (.ref C) "__setattr__" = some (some (.builtin "object.__setattr__"))) (ht : takerIn K0 C "message" = some none) (hdct : hdct = true)
    (h2 : K0.lookup fI = some ⟨oc, od, .func (fnOf name qual params [.Assign [.Attribute (.Name "self" p1) "message" p2] (.Name "message" p3) p4] scope dV kV doc pm an cdv ct), osl⟩) (h3 : codeIn K0 cdv qual = true)
    (hb : ∀ x v, bindArgs (fnOf name qual params [.Assign [.Attribute (.Name "self" p1) "message" p2] (.Name "message" p3) p4] scope dV kV doc pm an cdv ct) ⟨[x, v], []⟩ = pure ([("self", x), ("message", v)] : List (Str × Value)))
    (hcell : ∀ x ∈ scope.names, x.2 ≠ .cell) (hs : scope.names.lookup ("self" : Str) = some .local) (hm : scope.names.lookup ("message" : Str) = some .local)
    (hco : scope.isCoroutine = false) (hgen : scope.isGenerator = false) (hk : scope.kind = .function) : RefAt K0 C
inductive RefOk (K0 : Frag) : Prop
  | mk {C : Addr} (w0 : nsIn K0 mainGlobals "Refusal" = some (some (.ref C))) (wk : keepIn K0 (.ref C) = true) (wo : RefAt K0 C) : RefOk K0
end
section
variable {cx : Cx} {r : Nat} {G : Glo} {KE : Sig → Prop} {Pr : Addr → Option Obj} {g : Gh} {s : Shared} {ma : Loc} {σ : Sig}
theorem make_ref {C : Addr} {A : Around} {mv : Value} {Q : Value → Shared → Prop} {E : Value → Shared → Prop} (O : RefAt cx.K C) (hr : Room 1 A) (J : Inv cx Pr σ g s)
    (q : ∀ s' e t d, s.heap.get? e = none → (∀ b o, s.heap.get? b = some o → s'.heap.get? b = some o) → s'.heap.get? e = some { cls := .ref C, dict := some d, data := .fields #[.ref t, .none, .none, .none, .bool false, .none] } → Sh s s' → Q (.ref e) s') :
    wpAny (model cx.prog cx.w) A (call (.ref C) [mv]) Q E s := by
  cases O with
  | @mk B0 fI c1 nm q' N bs hdct sn sub ab col dd k0 k1 k2 k3 k5 c0 ddB cdB slB oN es ep oc od osl name qual params scope dV kV doc pm cdv ct an p1 p2 p3 p4 hC hB hN hNd hsk hni hi hf hset ht hdct h2 h3 hb hcell hs hm hco hgen hk =>
    subst hdct
    have X := kin J
    have BF := PySem.F.excBase_Exception
    have hnl := cx.T.nolimit.keeps fun b o e => J.zle _ _ (J.base _ _ e)
    obtain ⟨h, gn, dr, t, os⟩ := s
    dsimp only at X hnl
    have hCh := X _ _ hC
    have TT : OwnTail h [.type "Exception", .type "BaseException", .type "object"] [.ref B0, .type "Exception", .type "BaseException", .type "object"] := .own (X _ _ hB) ⟨oN, es, ep, X _ _ hN, hNd, hsk, fun _ => rfl⟩ hni .base
    have f1 := tc_lookup
    have f2 := tc_bind (.ref C)
    have hT : (⟨h, gn, dr, t, os⟩ : Shared).TypeIs (.ref C) "type" := ⟨_, hCh, rfl⟩
    refine wpAny_call (codeAny_of_tree ?_)
    show wpAny _ _ (callAny (.ref C) _) _ _ _
    repeat (any_goals (first | assumption | with_reducible refine wpAny_loadPart_at hCh ?_ | wp_step))
    refine ⟨rfl, ?_⟩
    refine codeAny_call_builtin_at (Code.quiet_builtin _ (by decide +kernel)) entry_typeCall (wpAny_check_type_call_sub hCh ?_)
    repeat (first | with_reducible refine wpAny_loadPart_at hCh ?_ | with_reducible refine wpAny_madeBy_exc hCh ?_ | wp_step)
    refine codeAny_call_builtin_code (Code.quiet_builtin _ BF.quiet) (wpAny_check_new_subT BF TT hCh ?_)
    refine codeAny_exc_new_subT BF TT hCh ?_ (Nat.le_trans (by decide : 1 ≤ 1000) (le_line (Nat.le_refl _)))
    show wpAny _ _ _ _ _ ⟨(h.push { cls := .type "tuple", data := .seq [mv].toArray }).push { cls := .ref C, data := .fields #[.ref h.objs.size, .none, .none, .none, .bool false, .none] }, gn, dr, t, os⟩
    generalize hH : (h.push { cls := .type "tuple", data := .seq [mv].toArray }).push { cls := .ref C, data := .fields #[.ref h.objs.size, .none, .none, .none, .bool false, .none] } = H
    have keep : ∀ b o, h.get? b = some o → H.get? b = some o := fun b o e => hH ▸ Heap.get?_push_of_some _ (Heap.get?_push_of_some _ e)
    have hget : H.get? (h.objs.size + 1) = some { cls := .ref C, data := .fields #[.ref h.objs.size, .none, .none, .none, .bool false, .none] } := by rw [← hH]; heap_get
    have X1 : cx.K.In H := fun a o e => keep _ _ (X a o e)
    have hC1 := keep _ _ hCh
    have hcC : (Value.ref C :: [Value.ref B0, .type "Exception", .type "BaseException", .type "object"]).contains (.ref C) = true := by simp
    have Lb := bind_fn (M := model cx.prog cx.w) X1 (.ref (h.objs.size + 1)) hf
    unfold isInstance
    repeat (first | with_reducible refine wpAny_loadPart_at hget ?_ | (with_reducible refine wpAny_isSubtype_exc hC1 ?_; rw [hcC]) | wp_step)
    show wpAny _ _ (typeLookup (.ref C) _) _ _ _
    refine (looks_findIn X1 hi).at ?_
    refine wpAny_holding (wpAny_bind (Lb.at (wpAny_bind (wpAny_call (codeAny_call_def (fd := fnOf name qual params [.Assign [.Attribute (.Name "self" p1) "message" p2] (.Name "message" p3) p4] scope dV kV doc pm an cdv ct) (body := [.Assign [.Attribute (.Name "self" p1) "message" p2] (.Name "message" p3) p4])
      (binds := [("self", .ref (h.objs.size + 1)), ("message", mv)]) ?hroom (X1 _ _ h2) rfl (hnl.keeps keep) (codeRec_of X1 h3) rfl (BindsTo.of_eq (hb _ _)) hcell ?hloc (fun h1 hns keep1 => ?_) hco hgen hk)))))
    case hroom => show (A.under _).depth < _; rw [show A.under (.builtin "type.__call__" ⟨[Value.ref C] ++ [mv], []⟩) = A.under (.builtin "type.__call__" ⟨.ref C :: [mv], []⟩) from rfl, depth_under_make]; unfold Room at hr; omega
    case hloc =>
      intro x hx
      simp only [List.mem_cons, List.not_mem_nil, or_false] at hx
      rcases hx with rfl | rfl
      · exact hs
      · exact hm
    have X2 : cx.K.In h1 := fun a o e => keep1 _ _ (X1 a o e)
    have hx2 := keep1 _ _ hget
    have hcls : clsIn cx.K C = some { name := nm, bases := bs, mro := .ref C :: [.ref B0, .type "Exception", .type "BaseException", .type "object"], ns := N, qualname := q', hasDict := true, slotNames := sn, subclasses := sub, abstract := ab, collection := col, hasDel := false } := by unfold clsIn; rw [hC]
    have hpass : ∀ self : Value, refuseLoop self "__setattr__" (.ref C :: [.ref B0, .type "Exception", .type "BaseException", .type "object"]) = pure () := fun self => by
      rw [refuseLoop_ref, refuseLoop_ref]; exact PySem.F.store_Exception.passes self
    refine wpAny_execs_cons (plainObj_wpAny_Assign_Attribute (wpAny_Name (wpAny_loadName_local hk hm hns (v := mv) rfl ?_)) rfl)
    refine wpAny_Name (wpAny_loadName_local hk hs hns (v := .ref (h.objs.size + 1)) rfl ?_)
    refine set_plain (s := { heap := h1, gens := gn, drawn := dr, toks := t + 2, os := os }) X2 (⟨hx2, rfl, rfl, trivial⟩ : InstAt h1 (h.objs.size + 1) _ C none) hset ?_
    refine put_exc (s := { heap := h1, gens := gn, drawn := dr, toks := t + 2 + 1, os := os }) X2 hx2 hcls rfl rfl (by simp) hpass ht fun h2 d k2 e2 => ?_
    refine wpAny_execs_nil (wpAny_pure ?_)
    simp only [bne_self_eq_false, Bool.false_eq_true, if_false]
    have frx : h.get? (h.objs.size + 1) = none := get_none_of_size (Nat.le_succ _)
    refine wpAny_pure (q _ (h.objs.size + 1) h.objs.size d frx (fun b o e => ?_) e2 ⟨rfl, rfl, rfl⟩)
    exact k2 _ _ (fun z => by rw [z, frx] at e; cases e) (keep1 _ _ (keep _ _ e))
theorem raise_made {M : Model} {A : Around} {env : Env} {C N : Addr} {nm q : Str} {bs bm : List Value} {hdct : Bool} {sn : List Str} {sub : List Value} {ab : Bool} {col : Option Bool} {dd : Option Addr} {k0 k1 k2 k3 k5 : Option Value} {newId : String} {x : Sem Value} {Q : Flow → Shared → Prop} {E : Value → Shared → Prop}
    (hbase : bm.contains (.type "BaseException") = true) (hh : A.handled = none)
    (h : wpAny M A x (fun v s₁ => ∃ e d t, v = .ref e ∧ s₁.heap.get? C = some (excClassObj nm q C N bs bm hdct sn sub ab col dd k0 k1 k2 k3 k5 newId) ∧
      s₁.heap.get? e = some { cls := .ref C, dict := some d, data := .fields #[.ref t, .none, .none, .none, .bool false, .none] } ∧ E (.ref e) s₁) E s) :
    wpAny M A (raiseStmt env (some x) none) Q E s := by
  have hcB : (Value.ref C :: bm).contains (.type "BaseException") = true := by rw [List.contains_cons, hbase, Bool.or_true]
  unfold raiseStmt
  refine wpAny_bind (wpAny_mono h (fun v s₁ h₁ => ?_) fun _ _ x => x)
  obtain ⟨e, d, t, rfl, hC, he, hE⟩ := h₁
  obtain ⟨hp, g, dw, tk, os⟩ := s₁
  repeat (first | with_reducible refine wpAny_loadPart_at he ?_ | with_reducible refine wpAny_loadPart_at hC ?_ | (with_reducible refine wpAny_isSubtype_exc hC ?_; rw [hcB]) | wp_step)
  exact wpAny_raiseNew_none hh hE
theorem exc_new {A : Around} {C e d t : Addr} {fr : Option (List Env)} (h1 : nsIn cx.K mainGlobals "Refusal" = some (some (.ref C))) (hA : A.frames = fr) (hf : FrOK A Pr) (J : Inv cx Pr σ g s) {s' : Shared} (J' : Inv cx Pr σ g s')
    (fe : s.heap.get? e = none) (k : ∀ b o, s.heap.get? b = some o → s'.heap.get? b = some o) (he : s'.heap.get? e = some { cls := .ref C, dict := some d, data := .fields #[.ref t, .none, .none, .none, .bool false, .none] }) : Exc cx fr Pr σ g s'.heap e := by
  obtain ⟨_, l, hl, hfr⟩ := hf
  refine ⟨C, l, h1, by rw [← hA, hl], hideAll s'.heap (e :: l.filterMap (·.frame)), fun b o z => of_hideAll _ z, fun b o hb hk => hideAll_get _ hb fun hm => ?_, hideAll_none _ List.mem_cons_self, fun env he' L hL => hideAll_none _ (List.mem_cons_of_mem _ (List.mem_filterMap.mpr ⟨env, he', hL⟩)), .inl ⟨_, _, .ref t, he, rfl, rfl, rfl, rfl⟩⟩
  rcases List.mem_cons.mp hm with rfl | hm
  · rcases hk with ⟨x, z⟩ | ⟨x, z⟩ | z | ⟨x, z, _⟩
    · rw [J.z_fresh fe] at z; cases z
    · rw [J.v_fresh fe] at z; cases z
    · obtain ⟨p, hp, e⟩ := List.mem_map.mp z; exact J.s_fresh fe p hp e
    · rw [J.p_fresh fe] at z; cases z
  · obtain ⟨env, he', hL⟩ := List.mem_filterMap.mp hm
    obtain ⟨_, L, o', es, n, hL', hp, hd⟩ := hfr env he'
    rw [hL] at hL'; cases hL'
    obtain ⟨pz, pv, _⟩ := J.pr _ _ hp
    rcases hk with ⟨x, z⟩ | ⟨x, z⟩ | z | ⟨x, z, q⟩
    · rw [pz] at z; cases z
    · rw [pv] at z; cases z
    · obtain ⟨p, hp', e⟩ := List.mem_map.mp z
      obtain ⟨_, np, _⟩ := J.sg p hp'
      rw [e, hp] at np; cases np
    · rw [hp] at z; cases z; exact q es n hd
inductive ExcAt (K0 : Frag) (C : Addr) : Prop
  | mk {B0 : Addr} {nm q' : Str} {N : Addr} {bs : List Value} {hdct : Bool} {sn : List Str} {sub : List Value} {ab : Bool} {col : Option Bool} {dd : Option Addr} {k0 k1 k2 k3 k5 : Option Value}
    (h : K0.lookup C = some (excClassObj nm q' C N bs [.ref B0, .type "Exception", .type "BaseException", .type "object"] hdct sn sub ab col dd k0 k1 k2 k3 k5 "Exception.__new__")) : ExcAt K0 C
theorem RefAt.exc {K0 : Frag} {C : Addr} (wo : RefAt K0 C) : ExcAt K0 C := by cases wo with | mk hC => exact ⟨hC⟩
theorem ex_raise {e : Expr} {np cpos pos : Pos} {K : Out → Loc → Sig → Prop} (W : RefOk cx.K) (hl : Lk "Refusal" (.fn "Refusal") G.gl) (hs : ∀ env, starEach [e] env = (false, eval e env) :: starEach [] env)
    (h : EvTo cx (r + 1) G KE e ma σ (fun _ σ1 => KE σ1)) : ExTo cx (r + 1) G KE (.Raise (some (.Call (.Name "Refusal" np) [e] [] cpos)) none pos) ma σ K := by
  intro A env Pr g s Q E hr hf F J q qe
  obtain @⟨C, w0, wk, wo⟩ := W
  have hfo := hf.2.2
  obtain @⟨B0, nm, q', N, bs, hdct, sn, sub, ab, col, dd, k0, k1, k2, k3, k5, hC⟩ := wo.exc
  have go : wpAny (model cx.prog cx.w) A (eval (.Call (.Name "Refusal" np) [e] [] cpos) env) (fun v s₁ => ∃ e d t, v = .ref e ∧ s₁.heap.get? C = some (excClassObj nm q' C N bs [.ref B0, .type "Exception", .type "BaseException", .type "object"] hdct sn sub ab col dd k0 k1 k2 k3 k5 "Exception.__new__") ∧
      s₁.heap.get? e = some { cls := .ref C, dict := some d, data := .fields #[.ref t, .none, .none, .none, .bool false, .none] } ∧ E (.ref e) s₁) E s := by
    refine wpAny_Call_ofName (global_load F J hl.mem fun fv vf => ?_)
    have e0 := fn_of vf
    · skip
      rw [w0] at e0; cases e0
      have er : ∀ g' σ' s' e, KE σ' → g.le g' → Inv cx Pr σ' g' s' → Exc cx A.frames Pr σ' g' s'.heap e → E (.ref e) s' := fun g' σ' s' e ke L J' x => qe Pr g' σ' s' e ma ke (.refl _ _) L (F.mono L) J' x
      have args : wpAny (model cx.prog cx.w) A (spliced (backTo cpos (starEach [e] env))) (fun vs s₂ => cx.K.In s₂.heap ∧ wpAny (model cx.prog cx.w) A (call (.ref C) vs) (fun v s₁ => ∃ e d t, v = .ref e ∧ s₁.heap.get? C = some (excClassObj nm q' C N bs [.ref B0, .type "Exception", .type "BaseException", .type "object"] hdct sn sub ab col dd k0 k1 k2 k3 k5 "Exception.__new__") ∧
          s₁.heap.get? e = some { cls := .ref C, dict := some d, data := .fields #[.ref t, .none, .none, .none, .bool false, .none] } ∧ E (.ref e) s₁) E s₂) E s := by
        refine wpAny_items_cons (h A env Pr g s _ E hr hfo F J (fun g1 σ1 s1 a v k1 L1 J1 v1 => ?_) er) (hs env)
        refine wpAny_items_nil ⟨kin J1, ?_⟩
        refine make_ref wo (hr.le (by omega)) J1 fun s' e t d fe keep he sh => ?_
        have J2 := J1.sh keep sh
        refine ⟨e, d, t, rfl, keep _ _ (kin J1 _ _ hC), he, ?_⟩
        exact er g1 σ1 s' e k1 L1 J2 (exc_new w0 rfl hfo J1 J2 fe keep he)
      rw [hs] at args ⊢
      exact callWith_of (P := fun h => cx.K.In h) rfl (fun h X => keeps_K wk h X) (evalArgs_plain args)
  rw [arm_exec_Raise]
  show wpAny _ A (do standAt pos; raiseStmt env (some (do let v ← eval (.Call (.Name "Refusal" np) [e] [] cpos) env; standAt pos; pure v)) none) _ _ _
  refine wpAny_bind (wpAny_standAt (raise_made (by simp) hf.2.2.1 (wpAny_bind (wpAny_mono go (fun v s₁ h₁ => wpAny_bind (wpAny_standAt (wpAny_pure h₁))) fun _ _ x => x))))
theorem ex_try {b0 : Stmt} {body : List Stmt} {np hp pos rp : Pos} {kk : Nat} {cp : Pos} {K : Out → Loc → Sig → Prop} (W : RefOk cx.K) (hl : Lk "Refusal" (.fn "Refusal") G.gl)
    (h : XsTo cx r G (fun σ' => ∀ ma', K (.ret N) ma' σ') K (b0 :: body) ma σ) : ExTo cx r G KE (.Try (b0 :: body) [.ExceptHandler (some (.Name "Refusal" np)) none [.Return (some (.Constant .none kk cp)) rp] hp] [] [] pos) ma σ K := by
  intro A env Pr g s Q E hr hf F J q qe
  obtain @⟨C, w0, wk, wo⟩ := W
  obtain @⟨B0, nm, q', N0, bs, hdct, sn, sub, ab, col, dd, k0, k1, k2, k3, k5, hC⟩ := wo.exc
  refine wpAny_Try_except (h A env Pr g s _ _ hr hf F J (fun P1 g1 σ1 s1 o ma1 f k1' st1 L1 F1 J1 fr => ?_) fun P1 g1 σ1 s1 e ma1 ke st1 L1 F1 J1 x1 => ?_)
  · cases o <;> cases f <;> simp only [FlowR] at fr
    · exact wpAny_execs_nil (q P1 g1 σ1 s1 .next ma1 .next k1' st1 L1 F1 J1 trivial)
    · exact q P1 g1 σ1 s1 _ ma1 _ k1' st1 L1 F1 J1 trivial
    · exact q P1 g1 σ1 s1 _ ma1 _ k1' st1 L1 F1 J1 trivial
    · exact q P1 g1 σ1 s1 _ ma1 _ k1' st1 L1 F1 J1 fr
  · obtain ⟨C', l, h1, h2, B, h3, h4, h5, h6, h7⟩ := x1
    rw [w0] at h1; cases h1
    obtain ⟨⟨l0, hA⟩, hfr, hh, l1, hl1, hfo⟩ := hf.step st1
    rw [hA] at hl1; cases hl1
    rw [hA] at h2; cases h2
    have FF := frames_of (B := B) J1 hfo h6
    -- the frame is told, the exception is in flight again
    have land : ∀ a0 h8, Heap.HeldW B (env :: l0) e (.ref C) a0 env.locals h8 → s1.heap.UpToSlots h8 → wpAny (model cx.prog cx.w) A (setFlight (.ref e) none) (fun _ s₃ => wpAny (model cx.prog cx.w) A (handleBy (.ref e) env [.ExceptHandler (some (.Name "Refusal" np)) none [.Return (some (.Constant .none kk cp)) rp] hp]) Q E s₃) E { s1 with heap := h8 } := by
      intro a0 h8 held u8
      refine wpAny_landsW held fun h9 fl u9 => ?_
      have J9 := J1.left fl.1 (u8.trans u9) h4
      obtain ⟨ob, hob, hoc⟩ := fl.there
      refine wpAny_handleBy_cons (codeAny_handlers_test (global_load F1 J9 hl.mem fun fv vf => ?_)) (by intro z; cases z)
      have e0 := fn_of vf
      · skip
        rw [w0] at e0; cases e0
        refine wpAny_excMatches_sub_self (kin J9 _ _ hC) hob hoc (by simp) ?_
        refine codeAny_handlers_suite ?_
        refine lands_againW fl fun h10 fl10 u10 => ?_
        have J10 := J1.left fl10.1 ((u8.trans u9).trans u10) h4
        refine wpAny_execs_cons (wpAny_Return_some (wpAny_Constant_none ?_))
        exact q P1 g1 σ1 _ (.ret Mine.N) ma1 _ (ke ma1) st1 L1 F1 J10 vr_none
    rcases h7 with ⟨oe, vs, x, he, hc, hd, v1, v0⟩ | ⟨a0, fl⟩
    · unfold noteFrame
      simp only [hfr]
      refine wpAny_bind (wpAny_field he hd v1 ?_)
      rw [if_neg (by decide)]
      refine wpAny_entryW hA FF hfr he h3 h5 hd (Array.getElem?_eq_some_iff.mp v1).1 v0 fun h8 ⟨n1, n2, n3, n4⟩ => ?_
      exact land x h8 ⟨n1, h5, n2, hc ▸ n3⟩ n4
    · exact wpAny_looks_onW hA hfr fl fun h8 held u8 => land a0 h8 held u8
end
end Mine
end
section
open PySem PySem.W PySem.Spec PySem.SeqAt PySem.Calls PyProof.Rows Builtin Builtin.ObjectAttr
set_option Elab.async false
namespace Mine
inductive Rem (a : Addr) (l : List AV) : Sig → Sig → Prop
  | head {r} : Rem a l ((a, l) :: r) r
  | tail {e r r'} : Rem a l r r' → Rem a l (e :: r) (e :: r')
theorem Rem.mem {a : Addr} {l : List AV} : ∀ {σ σ' : Sig}, Rem a l σ σ' → (a, l) ∈ σ
  | _, _, .head => List.mem_cons_self
  | _, _, .tail h => List.mem_cons_of_mem _ h.mem
theorem Rem.sub {a : Addr} {l : List AV} : ∀ {σ σ' : Sig}, Rem a l σ σ' → σ'.Sublist σ
  | _, _, .head => List.sublist_cons_self _ _
  | _, _, .tail h => h.sub.cons₂ _
theorem Rem.out {a : Addr} {l : List AV} : ∀ {σ σ' : Sig}, Rem a l σ σ' → (σ.map (·.1)).Nodup → ∀ e ∈ σ', e.1 ≠ a
  | _, _, .head, nd, e, he, q => by
    rw [List.map_cons, List.nodup_cons] at nd
    exact nd.1 (List.mem_map.mpr ⟨e, he, q⟩)
  | _, _, .tail h, nd, e, he, q => by
    rw [List.map_cons, List.nodup_cons] at nd
    rcases List.mem_cons.mp he with rfl | he
    · exact nd.1 (q ▸ List.mem_map.mpr ⟨_, h.mem, rfl⟩)
    · exact h.out nd.2 e he q
section
variable {cx : Cx} {r : Nat} {G : Glo} {KE : Sig → Prop} {Pr : Addr → Option Obj} {g : Gh} {s : Shared} {ma : Loc} {σ : Sig}
theorem Inv.still (J : Inv cx Pr σ g s) {a : Addr} {l : List AV} {σ' : Sig} (R : Rem a l σ σ') : ∃ g', g.le g' ∧ Inv cx Pr σ' g' s ∧ ∃ vs n, g'.Z.get? a = some { cls := .type "list", data := .seq vs n } ∧ VRs cx g' l vs.toList := by
  obtain ⟨az, ap, av, vs, rs, n, h⟩ := J.sg _ R.mem
  have J1 := J.drop (σ' := σ') (fun e he => R.sub.subset he) (List.Nodup.sublist (R.sub.map _) J.nd)
  obtain ⟨L, J2, hz⟩ := J1.adopt (D := a) ⟨az, ap, av, R.out J.nd⟩
  exact ⟨_, L, J2, vs, n, hz _ h, rs.mono L⟩
theorem ev_freeze {e : Expr} {K : AV → Sig → Prop} (h : EvTo cx r G KE e ma σ (fun a σ1 => ∃ c l ps σ2, a = .lref c ∧ Rem c l σ1 σ2 ∧ unD l = some ps ∧ K (.d (.list ps)) σ2)) : EvTo cx r G KE e ma σ K := by
  intro A env Pr g s Q E hr hf F J q qe
  refine h A env Pr g s Q E hr hf F J (fun g1 σ1 s1 a v k1 L1 J1 v1 => ?_) qe
  obtain ⟨c, l, ps, σ2, rfl, R, hd, k⟩ := k1
  obtain rfl := v1.inv
  obtain ⟨g2, L2, J2, vs, n, hz, rs⟩ := J1.still R
  rw [unD_eq hd] at rs
  obtain ⟨as, ra⟩ := reads_all rs
  exact q g2 σ2 s1 _ _ k (L1.trans L2) J2 (.d (.list hz rfl rfl ra))
theorem tru_list {ps : List PyData} {K : Bool → Prop} (hl : ps.length ≤ 1000) (k : K (!ps.isEmpty)) : TruTo cx r (.d (.list ps)) σ K := by
  intro A Pr g s x Q E hr J va q
  obtain ⟨b, vs, rfl, hb, rs⟩ := seq_lst J (.dl rfl) va
  have hs := rs.size
  rw [List.length_map] at hs
  refine wpAny_truthy_list hb (by omega) ?_
  have e : (!vs.isEmpty) = !ps.isEmpty := by
    cases ps with
    | nil => simp at hs; subst hs; rfl
    | cons p ps =>
      have : vs.isEmpty = false := by rw [Bool.eq_false_iff]; intro z; simp at z; subst z; simp at hs
      rw [this]; rfl
  rw [e]; exact q _ _ k (J.toks _)
theorem ie_rev {np pos : Pos} {e : Expr} {K : List AV → Sig → Prop} (he : ∀ env, starEach [e] env = (false, eval e env) :: starEach [] env)
    (h : EvTo cx r G KE (.Name "reversed" np) ma σ (fun f σ1 => f = .cv (.type "reversed") ∧ EvTo cx r G KE e ma σ1 (fun a σ2 => ∃ l, SeqAV "list" a l ∧ K l.reverse σ2))) : IeTo cx r G KE (.Call (.Name "reversed" np) [e] [] pos) ma σ K := by
  intro A env Pr g s Q E hr hf F J q qe
  refine wpAny_Call_ofName (h A env Pr g s _ E hr hf F J (fun g1 σ1 s1 f fv k1 L1 J1 v1 => ?_) qe)
  obtain ⟨rfl, k1⟩ := k1
  obtain rfl := v1.inv
  have go : wpAny (model cx.prog cx.w) A (spliced (backTo pos (starEach [e] env))) (fun vs s₁ => True ∧ wpAny (model cx.prog cx.w) A (call (.type "reversed") vs) (fun x s₁ => wpAny (model cx.prog cx.w) A (pyIter x) Q E s₁) E s₁) E s1 := by
    refine wpAny_items_cons (k1 A env Pr g1 s1 _ E hr hf (F.mono L1) J1 (fun g2 σ2 s2 a v k2 L2 J2 v2 => ?_) fun g' σ' s' e ke L' => qe g' σ' s' e ke (L1.trans L')) (he env)
    refine wpAny_items_nil ⟨trivial, ?_⟩
    obtain ⟨l, S, k⟩ := k2
    obtain ⟨b, o, vs, n, rfl, hz, hc, hd, rs⟩ := seq_at S v2
    refine call_reversed_list ⟨o, J2.zle _ _ hz, hc, n, hd⟩ ?_
    have fr : s2.heap.get? s2.heap.objs.size = none := get_none_of_size (Nat.le_refl _)
    have J3 := J2.tell1 (o := revObj b ((vs.size : Int) - 1)) s2.toks (fun b' o e => Heap.get?_push_of_some (revObj b ((vs.size : Int) - 1)) e) fr (Heap.get?_push_size _ rfl)
    have O : ItO cx g2 (revObj b ((vs.size : Int) - 1)) l.reverse := .rev (i := vs.size) rfl rfl hz hc hd (by rw [← Array.length_toList, List.take_length]; exact rs) (Nat.le_refl _)
    exact it_self J3 setPr_self O (q g2 σ2 _ _ _ _ k (L1.trans L2) (J2.p_fresh fr) J3 O)
  rw [he] at go ⊢
  exact callWith_of (P := fun _ => True) rfl (fun h _ => ⟨.machine, .inr (.inl rfl), .now⟩) (evalArgs_plain go)
theorem ex_share {x : Str} {p1 p2 pos cp : Pos} {kk : Nat} {k : Str} {items : List PyData} {K : Out → Loc → Sig → Prop} (hx : Lk x (.vec k items) ma)
    (hA : ∀ C, nsIn cx.K mainGlobals "Vector" = some (some (.ref C)) → findIn cx.K (.ref C) "__setattr__" = some (some (.builtin "object.__setattr__")) ∧ plainOver cx.K C = true ∧ takerIn cx.K C "shared" = some none ∧ hasDictIn cx.K C = true)
    (kk' : K .next ma σ) : ExTo cx r G KE (.Assign [.Attribute (.Name x p1) "shared" p2] (.Constant (.bool true) kk cp) pos) ma σ K := by
  intro A env Pr g s Q E hr hf F J q qe
  refine plainObj_wpAny_Assign_Attribute (wpAny_Constant_bool ?_) rfl
  obtain ⟨m, hn, hv⟩ := fr_of F J
  obtain ⟨hd, ov, hs, hov⟩ := hv _ hx.mem
  rcases hov with e | ⟨v, rfl, vr⟩
  · cases e
  · refine wpAny_Name (load_slot F J hn hs ?_) hd
    obtain ⟨a, d, C, t, iv, as, rfl, hC, hx, hV, hi⟩ := VR.inv vr
    · skip
      obtain ⟨h1, h2, h3, h4⟩ := hA C hC
      obtain ⟨_, hdd, ⟨g1, g2, g3, g4, g5, t1, t2, t3, t4, t5, b, n⟩⟩ := J.vd _ _ _ hV
      have X := kin J
      have hx' := J.zle _ _ hx
      refine set_plain X (⟨hx', rfl, rfl, hdd⟩ : InstAt s.heap a (instObj C d) C (some _)) h1 ?_
      refine put_own (s := { s with toks := s.toks + 1 }) X hx' hdd h2 h3 h4 rfl (by rw [show putL "shared" _ _ _ _ = [⟨g1, .str "kind" t1, .str k t⟩, ⟨g2, .str "items" t2, iv⟩, ⟨g3, .str "attrs" t3, .none⟩, ⟨g4, .str "shared" t4, .bool true⟩, ⟨g5, .str "loose" t5, .bool false⟩] from rfl]; exact Nat.le_of_ble_eq_true rfl) fun h' hs' ho' => ?_
      have J' := J.setVec hV (h' := h') (s.toks + 1 + 1) hs' ⟨ho', ⟨g1, g2, g3, g4, g5, t1, t2, t3, t4, t5, true, _⟩⟩
      exact q Pr g σ _ .next ma .next kk' (.refl _ _) (.refl g) F J' trivial
end
end Mine
end
section
open PySem PySem.W PySem.Spec PySem.SeqAt PySem.Calls PyProof.Rows
set_option Elab.async false
namespace Mine
section
variable {cx : Cx} {r : Nat} {G : Glo} {KE : Sig → Prop} {Pr : Addr → Option Obj} {g : Gh} {s : Shared} {ma : Loc} {σ : Sig}
theorem cmp_eq_str {x y : Str} {K : Bool → Prop} (k : K (x == y)) : CmpTo cx r .Eq (S x) (S y) σ K := by
  intro A Pr g s a b Q E hr J ha hb q
  obtain ⟨t, rfl⟩ := str_of ha
  obtain ⟨u, rfl⟩ := str_of hb
  exact PyProof.Rows.eq_str (q _ _ k J)
theorem cmp_ne_str {x y : Str} {K : Bool → Prop} (k : K (x != y)) : CmpTo cx r .NotEq (S x) (S y) σ K := by
  intro A Pr g s a b Q E hr J ha hb q
  obtain ⟨t, rfl⟩ := str_of ha
  obtain ⟨u, rfl⟩ := str_of hb
  exact PyProof.Rows.ne_str (q _ _ k J)
theorem for_nil {x : Str} {b : List Stmt} {K : Out → Loc → Sig → Prop} (k : K .next ma σ) : ForTo cx x b r G K [] ma σ := k
theorem for_cons {x : Str} {b : List Stmt} {K : Out → Loc → Sig → Prop} {a : AV} {l : List AV} (h : StTo cx x a ma (fun ma1 => XsTo cx r G NoE (fun o ma2 σ2 => match o with
      | .next => ForTo cx x b r G K l ma2 σ2
      | .cont => ForTo cx x b r G K l ma2 σ2
      | .brk => K .next ma2 σ2
      | .ret v => K (.ret v) ma2 σ2) b ma1 σ)) : ForTo cx x b r G K (a :: l) ma σ := h
theorem cp_nil {x : Str} {elt : Expr} {ifs : List Expr} {cap : Loc} {K : List AV → Sig → Prop} {acc : List AV} (k : K acc σ) : CpTo cx x elt ifs r G cap K [] acc σ := k
theorem cp_cons {x : Str} {elt : Expr} {cap : Loc} {K : List AV → Sig → Prop} {acc : List AV} {a : AV} {l : List AV} (h : EvTo cx r G NoE elt ((x, a) :: cap) σ (fun av σ2 => CpTo cx x elt [] r G cap K l (acc ++ [av]) σ2)) : CpTo cx x elt [] r G cap K (a :: l) acc σ :=
  ⟨fun _ => h, fun z => nomatch z⟩
theorem cp_cons_if {x : Str} {elt t : Expr} {cap : Loc} {K : List AV → Sig → Prop} {acc : List AV} {a : AV} {l : List AV} (h : TsTo cx r G NoE t ((x, a) :: cap) σ (fun z σ1 => Ways z (EvTo cx r G NoE elt ((x, a) :: cap) σ1 (fun av σ2 => CpTo cx x elt [t] r G cap K l (acc ++ [av]) σ2)) (CpTo cx x elt [t] r G cap K l acc σ1))) : CpTo cx x elt [t] r G cap K (a :: l) acc σ := h
end
end Mine
end
section
open PySem PySem.W PySem.Spec PySem.SeqAt PySem.Calls PyProof.Rows
set_option Elab.async false
namespace Mine
section
variable {cx : Cx} {r : Nat} {G : Glo} {KE : Sig → Prop} {Pr : Addr → Option Obj} {g : Gh} {s : Shared} {ma : Loc} {σ : Sig}
theorem VRs.take : ∀ {n : Nat} {l : List AV} {vs : List Value}, VRs cx g l vs → VRs cx g (l.take n) (vs.take n)
  | 0, _, _, _ => by simpa using .nil
  | _ + 1, _, _, .nil => by simpa using .nil
  | n + 1, _, _, .cons h t => by simpa using .cons h t.take
theorem ev_tail {v : Expr} {k : Nat} {p0 p pos : Pos} {K : AV → Sig → Prop} (h : EvTo cx r G KE v ma σ (fun a σ1 => ∃ x l, a = .lst (x :: l) ∧ l.length ≤ 900 ∧ K (.lst l) σ1)) :
    EvTo cx r G KE (.Subscript v (.Slice (some (.Constant (.int 1) k p0)) none none p) pos) ma σ K :=
  ev_slice .int .none fun A env Pr g s Q E hr hf F J q qe => h A env Pr g s Q E hr hf F J (fun g1 σ1 s1 a v k1 L1 J1 v1 => by
    obtain ⟨x, l, rfl, hl, kk⟩ := k1
    refine q g1 σ1 s1 _ v ⟨.lst l, fun g' v' h' => ?_, kk⟩ L1 J1 v1
    cases h' with
    | @lst c vs n _ h1 h2 =>
      refine ⟨c, vs, rfl, ⟨_, n, h1, rfl, rfl⟩, by rw [h2.size]; exact le_line (by simp; omega), fun g2 c2 L2 h3 => .lst h3 ?_⟩
      rw [kms_pick_eq]
      obtain ⟨y, t, e, hy, rs⟩ := h2.cons_inv
      have : kms_pick vs.toList (some 1) none = t := by
        have e1 : ¬ (1 : Int) < 0 := by decide
        have e2 : min (1 : Int).toNat (t.length + 1) = 1 := by simp
        simp only [kms_pick, kms_lo, kms_hi, e, if_neg e1, List.length_cons, e2, List.drop_succ_cons, List.drop_zero]
        exact List.take_of_length_le (by omega)
      rw [this]
      simpa using rs.mono L2) qe
theorem ev_forty {v : Expr} {k : Nat} {p0 p pos : Pos} {K : AV → Sig → Prop} (h : EvTo cx r G KE v ma σ (fun a σ1 => ∃ ps, a = .d (.list ps) ∧ ps.length ≤ sizeLine ∧ K (.d (.list (ps.take 40))) σ1)) :
    EvTo cx r G KE (.Subscript v (.Slice none (some (.Constant (.int 40) k p0)) none p) pos) ma σ K :=
  ev_slice .none .int fun A env Pr g s Q E hr hf F J q qe => h A env Pr g s Q E hr hf F J (fun g1 σ1 s1 a v k1 L1 J1 v1 => by
    obtain ⟨ps, rfl, hl, kk⟩ := k1
    refine q g1 σ1 s1 _ v ⟨.d (.list (ps.take 40)), fun g' v' h' => ?_, kk⟩ L1 J1 v1
    cases h' with
    | d h' =>
      cases h' with
      | list h1 h2 h3 h4 =>
        have vv := vrs_of_reads (cx := cx) h4
        refine ⟨_, _, rfl, ⟨_, _, h1, h2, h3⟩, by rw [vv.size]; simpa using hl, fun g2 c2 L2 h3 => ?_⟩
        rw [kms_pick_eq] at h3
        obtain ⟨as, ra⟩ := reads_all (g := g2) (ps := ps.take 40) (by simpa using (vv.take (n := 40)).mono L2)
        refine .d (.list (as := as) h3 rfl rfl ?_)
        have : ∀ l : List Value, kms_pick l none (some 40) = l.take 40 := fun l => by
          have e1 : ¬ (40 : Int) < 0 := by decide
          simp only [kms_pick, kms_lo, kms_hi, if_neg e1, List.drop_zero, Nat.sub_zero]
          show l.take (min 40 l.length) = _
          simp
        rw [this]
        simpa using ra) qe
theorem ts_mono {e : Expr} {K K' : Bool → Sig → Prop} (h : TsTo cx r G KE e ma σ K) (k : ∀ z σ', K z σ' → K' z σ') : TsTo cx r G KE e ma σ K' :=
  fun A env Pr g s Q E hr hf F J q qe => h A env Pr g s Q E hr hf F J (fun g' σ' s' b kb => q g' σ' s' b (k _ _ kb)) qe
theorem xs_mono {b : List Stmt} {K K' : Out → Loc → Sig → Prop} (h : XsTo cx r G KE K b ma σ) (k : ∀ o ma' σ', K o ma' σ' → K' o ma' σ') : XsTo cx r G KE K' b ma σ :=
  fun A env Pr g s Q E hr hf F J q qe => h A env Pr g s Q E hr hf F J (fun P' g' σ' s' o ma' f ko => q P' g' σ' s' o ma' f (k _ _ _ ko)) qe
theorem st_mono {x : Str} {a : AV} {K K' : Loc → Prop} (h : StTo cx x a ma K) (k : ∀ ma', K ma' → K' ma') : StTo cx x a ma K' :=
  fun A env G Pr σ g s v Q E F J vr q => h A env G Pr σ g s v Q E F J vr fun P' s' ma' km => q P' s' ma' (k _ km)
theorem ds_nil {K : List Str → List AV → Prop} {ks : List Str} {l : List AV} (k : K ks.reverse l.reverse) : DsTo cx G ma K [] [] ks l := k
theorem ds_cons {K : List Str → List AV → Prop} {k : Str} {kk : Nat} {p : Pos} {kr : List (Option Expr)} {e : Expr} {er : List Expr} {ks : List Str} {l : List AV} (h : PuTo cx e G ma (fun a => DsTo cx G ma K kr er (k :: ks) (a :: l))) : DsTo cx G ma K (some (.Constant (.str k) kk p) :: kr) (e :: er) ks l := ⟨k, .mk, h⟩
noncomputable def Again {ι : Type} (I : ι → Loc → Sig → Prop) (μ : ι → Nat) (i : ι) (ma : Loc) (σ : Sig) : Prop := ∃ j, μ j < μ i ∧ I j ma σ
theorem wl_inv {ι : Type} (I : ι → Loc → Sig → Prop) (μ : ι → Nat) {t : Expr} {b : List Stmt} {K : Out → Loc → Sig → Prop}
    (step : ∀ i ma σ, I i ma σ → TsTo cx r G NoE t ma σ (fun z σ1 => Ways z (XsTo cx r G NoE (fun o ma2 σ2 => match o with
      | .next => Again I μ i ma2 σ2
      | .cont => Again I μ i ma2 σ2
      | .brk => K .next ma2 σ2
      | .ret a => K (.ret a) ma2 σ2) b ma σ1) (K .next ma σ1))) (i : ι) (ma : Loc) (σ : Sig) (h : I i ma σ) : WlTo cx r G K t b ma σ := by
  suffices H : ∀ n i ma σ, μ i < n → I i ma σ → WlTo cx r G K t b ma σ from H _ i ma σ (Nat.lt_succ_self _) h
  intro n
  induction n with
  | zero => exact fun _ _ _ h => absurd h (Nat.not_lt_zero _)
  | succ n ih =>
    intro i ma σ hn h
    refine wl_turn (ts_mono (step i ma σ h) fun z σ1 w => ⟨fun e => ?_, fun e => w.2 e⟩)
    refine xs_mono (w.1 e) fun o ma2 σ2 k => ?_
    cases o with
    | next => obtain ⟨j, hj, kj⟩ := k; exact ih j ma2 σ2 (by omega) kj
    | cont => obtain ⟨j, hj, kj⟩ := k; exact ih j ma2 σ2 (by omega) kj
    | brk => exact k
    | ret a => exact k
theorem for_inv (I : List AV → Loc → Sig → Prop) {x : Str} {b : List Stmt} {K : Out → Loc → Sig → Prop} (done : ∀ ma σ, I [] ma σ → K .next ma σ)
    (step : ∀ a l ma σ, I (a :: l) ma σ → StTo cx x a ma (fun ma1 => XsTo cx r G NoE (fun o ma2 σ2 => match o with
      | .next => I l ma2 σ2
      | .cont => I l ma2 σ2
      | .brk => K .next ma2 σ2
      | .ret v => K (.ret v) ma2 σ2) b ma1 σ)) : ∀ l ma σ, I l ma σ → ForTo cx x b r G K l ma σ
  | [], ma, σ, h => done ma σ h
  | a :: l, ma, σ, h => by
    refine st_mono (step a l ma σ h) fun ma1 w => xs_mono w fun o ma2 σ2 k => ?_
    cases o with
    | next => exact for_inv I done step l ma2 σ2 k
    | cont => exact for_inv I done step l ma2 σ2 k
    | brk => exact k
    | ret v => exact k
theorem SU.app {a : Addr} {l l' : List AV} {s s' : Sig} (h : SU a l l' s s') : ∀ τ : Sig, SU a l l' (τ ++ s) (τ ++ s')
  | [] => h
  | _ :: τ => .tail (SU.app h τ)
end
end Mine
end
section
open PySem PySem.W PySem.Spec PySem.SeqAt PySem.Calls PyProof.Rows
set_option Elab.async false
namespace Mine
theorem nu_d {p : PyData} : AV.d p ≠ .undef := nofun
theorem nu_lref {a : Addr} : AV.lref a ≠ .undef := nofun
theorem nu_vec {k : Str} {l : List PyData} : AV.vec k l ≠ .undef := nofun
theorem nu_sym {k : Str} : AV.sym k ≠ .undef := nofun
theorem nu_call {k : List AV} {l : List PyData} : AV.call k l ≠ .undef := nofun
theorem nu_tup {l : List AV} : AV.tup l ≠ .undef := nofun
theorem nu_lst {l : List AV} : AV.lst l ≠ .undef := nofun
theorem nu_dct {k : List Str} {l : List AV} : AV.dct k l ≠ .undef := nofun
theorem nu_fn {k : Str} : AV.fn k ≠ .undef := nofun
theorem nf_d {p : PyData} (n : Str) : AV.d p ≠ .fn n := nofun
theorem nf_lref {a : Addr} (n : Str) : AV.lref a ≠ .fn n := nofun
theorem nf_vec {k : Str} {l : List PyData} (n : Str) : AV.vec k l ≠ .fn n := nofun
theorem nf_call {k : List AV} {l : List PyData} (n : Str) : AV.call k l ≠ .fn n := nofun
theorem nf_sym {k : Str} (n : Str) : AV.sym k ≠ .fn n := nofun
noncomputable def ix {α : Type} (l : List α) (k : Int) : Option α := if 0 ≤ k ∧ k < 2 ^ 63 then l[k.toNat]? else none
theorem ix_spec {α : Type} {l : List α} {k : Int} {x : α} (h : ix l k = some x) : 0 ≤ k ∧ k < 2 ^ 63 ∧ l[k.toNat]? = some x := by
  unfold ix at h
  split at h
  · next w => exact ⟨w.1, w.2, h⟩
  · cases h
theorem ix_map {ps : List PyData} {k : Int} {p : PyData} (h : ix ps k = some p) : (ps.map AV.d)[k.toNat]? = some (.d p) := by rw [List.getElem?_map, (ix_spec h).2.2]; rfl
section
variable {cx : Cx} {r : Nat} {G : Glo} {KE : Sig → Prop} {ma : Loc} {σ : Sig}
section
variable {K : AV → Sig → Prop}
theorem it_dt {ps : List PyData} {k : Int} {p : PyData} (h : ix ps k = some p) (kk : K (.d p) σ) : ItemTo cx r (.d (.tuple ps)) (I k) σ K := item_of (.dt rfl) (.inl rfl) (ix_spec h).1 (ix_spec h).2.1 (ix_map h) kk
theorem it_dl {ps : List PyData} {k : Int} {p : PyData} (h : ix ps k = some p) (kk : K (.d p) σ) : ItemTo cx r (.d (.list ps)) (I k) σ K := item_of (.dl rfl) (.inr rfl) (ix_spec h).1 (ix_spec h).2.1 (ix_map h) kk
theorem it_tup {l : List AV} {k : Int} {x : AV} (h : ix l k = some x) (kk : K x σ) : ItemTo cx r (.tup l) (I k) σ K := item_of (.tup rfl) (.inl rfl) (ix_spec h).1 (ix_spec h).2.1 (ix_spec h).2.2 kk
theorem it_lst {l : List AV} {k : Int} {x : AV} (h : ix l k = some x) (kk : K x σ) : ItemTo cx r (.lst l) (I k) σ K := item_of (.lst rfl) (.inr rfl) (ix_spec h).1 (ix_spec h).2.1 (ix_spec h).2.2 kk
theorem it_lref {a : Addr} {l : List AV} {k : Int} {x : AV} (m : (a, l) ∈ σ) (h : ix l k = some x) (kk : K x σ) : ItemTo cx r (.lref a) (I k) σ K := item_lref m (ix_spec h).1 (ix_spec h).2.1 (ix_spec h).2.2 kk
theorem ev_call_g {x : Str} {np pos : Pos} {e : Expr} {rest : List Expr} {f : AV} (l : Lk x f G.gl) (he : ∀ env, starEach (e :: rest) env = (false, eval e env) :: starEach rest env) (hp : ∀ env, (backTo pos (starEach rest env)).any (·.1) = false)
    (h : EsTo cx r G KE (e :: rest) ma σ (fun as σ2 => CalTo cx r KE f as σ2 K)) : EvTo cx r G KE (.Call (.Name x np) (e :: rest) [] pos) ma σ K := ev_call he hp (ev_global l h)
theorem ev_sub_li {x : Str} {np cp pos : Pos} {a : AV} {i : Int} {kk : Nat} (l : Lk x a ma) (u : a ≠ .undef) (h : ItemTo cx r a (I i) σ K) : EvTo cx r G KE (.Subscript (.Name x np) (.Constant (.int i) kk cp) pos) ma σ K := ev_sub (fun _ _ => ⟨_, rfl⟩) (ev_local l u (ev_cint h))
theorem ev_attr_l {x name : Str} {np pos : Pos} {a : AV} (l : Lk x a ma) (u : a ≠ .undef) (h : AttrTo cx r a name σ K) : EvTo cx r G KE (.Attribute (.Name x np) name pos) ma σ K := ev_attr (fun _ _ => rfl) (ev_local l u h)
theorem ev_bin_ll {x y : Str} {op : Operator} {p1 p2 pos : Pos} {a b : AV} (l : Lk x a ma) (u : a ≠ .undef) (l2 : Lk y b ma) (u2 : b ≠ .undef) (h : BinTo cx r op a b σ K) : EvTo cx r G KE (.BinOp (.Name x p1) op (.Name y p2) pos) ma σ K := ev_bin (ev_local l u (ev_local l2 u2 h))
theorem ev_bin_li {x : Str} {op : Operator} {p1 p2 pos : Pos} {a : AV} {i : Int} {kk : Nat} (l : Lk x a ma) (u : a ≠ .undef) (h : BinTo cx r op a (I i) σ K) : EvTo cx r G KE (.BinOp (.Name x p1) op (.Constant (.int i) kk p2) pos) ma σ K := ev_bin (ev_local l u (ev_cint h))
theorem ev_bin_l {x : Str} {op : Operator} {p1 pos : Pos} {e : Expr} {a : AV} (l : Lk x a ma) (u : a ≠ .undef) (h : EvTo cx r G KE e ma σ (fun b σ2 => BinTo cx r op a b σ2 K)) : EvTo cx r G KE (.BinOp (.Name x p1) op e pos) ma σ K := ev_bin (ev_local l u h)
end
section
variable {K : List AV → Sig → Prop} {es : List Expr}
theorem es_l {x : Str} {pos : Pos} {a : AV} (l : Lk x a ma) (u : a ≠ .undef) (h : EsTo cx r G KE es ma σ (fun as σ2 => K (a :: as) σ2)) : EsTo cx r G KE (.Name x pos :: es) ma σ K := es_cons (fun _ => rfl) (ev_local l u h)
theorem es_l1 {x : Str} {pos : Pos} {a : AV} (l : Lk x a ma) (u : a ≠ .undef) (h : K [a] σ) : EsTo cx r G KE [.Name x pos] ma σ K := es_cons (fun _ => rfl) (ev_local l u (es_nil h))
theorem es_i {i : Int} {kk : Nat} {pos : Pos} (h : EsTo cx r G KE es ma σ (fun as σ2 => K (I i :: as) σ2)) : EsTo cx r G KE (.Constant (.int i) kk pos :: es) ma σ K := es_cons (fun _ => rfl) (ev_cint h)
theorem es_i1 {i : Int} {kk : Nat} {pos : Pos} (h : K [I i] σ) : EsTo cx r G KE [.Constant (.int i) kk pos] ma σ K := es_cons (fun _ => rfl) (ev_cint (es_nil h))
theorem es_s {x : Str} {kk : Nat} {pos : Pos} (h : EsTo cx r G KE es ma σ (fun as σ2 => K (S x :: as) σ2)) : EsTo cx r G KE (.Constant (.str x) kk pos :: es) ma σ K := es_cons (fun _ => rfl) (ev_cstr h)
theorem es_s1 {x : Str} {kk : Nat} {pos : Pos} (h : K [S x] σ) : EsTo cx r G KE [.Constant (.str x) kk pos] ma σ K := es_cons (fun _ => rfl) (ev_cstr (es_nil h))
theorem es_1 {e : Expr} (hs : ∀ env, starEach [e] env = [(false, eval e env)]) (h : EvTo cx r G KE e ma σ (fun a σ1 => K [a] σ1)) : EsTo cx r G KE [e] ma σ K :=
  es_cons (fun env => hs env) fun A env Pr g s Q E hr hf F J q qe => h A env Pr g s Q E hr hf F J (fun g' σ' s' av v k => q g' σ' s' av v (es_nil k)) qe
end
section
variable {K : Bool → Sig → Prop}
theorem ts_cmp_l {x : Str} {np pos : Pos} {op : CmpOp} {e : Expr} {a : AV} (l : Lk x a ma) (u : a ≠ .undef) (hm : behindInMarks op e = false) (h : EvTo cx r G KE e ma σ (fun b σ2 => CmpTo cx r op a b σ2 (fun z => K z σ2))) : TsTo cx r G KE (.Compare (.Name x np) [op] [e] pos) ma σ K := ts_cmp hm (ev_local l u h)
theorem ts_cmp_ll {x y : Str} {np mp pos : Pos} {op : CmpOp} {a b : AV} (l : Lk x a ma) (u : a ≠ .undef) (l2 : Lk y b ma) (u2 : b ≠ .undef) (hm : behindInMarks op (.Name y mp) = false) (h : CmpTo cx r op a b σ (fun z => K z σ)) : TsTo cx r G KE (.Compare (.Name x np) [op] [.Name y mp] pos) ma σ K := ts_cmp hm (ev_local l u (ev_local l2 u2 h))
theorem ts_cmp_li {x : Str} {np mp pos : Pos} {op : CmpOp} {a : AV} {i : Int} {kk : Nat} (l : Lk x a ma) (u : a ≠ .undef) (hm : behindInMarks op (.Constant (.int i) kk mp) = false) (h : CmpTo cx r op a (I i) σ (fun z => K z σ)) : TsTo cx r G KE (.Compare (.Name x np) [op] [.Constant (.int i) kk mp] pos) ma σ K := ts_cmp hm (ev_local l u (ev_cint h))
theorem ts_eqs_l {x y c : Str} {np mp pos : Pos} {kk : Nat} (l : Lk x (S y) ma) (h : K (y == c) σ) : TsTo cx r G KE (.Compare (.Name x np) [.Eq] [.Constant (.str c) kk mp] pos) ma σ K := ts_cmp rfl (ev_local l nofun (ev_cstr (cmp_eq_str h)))
theorem ts_eqi_l {x : Str} {np mp pos : Pos} {i j : Int} {kk : Nat} (l : Lk x (I i) ma) (h : K (i == j) σ) : TsTo cx r G KE (.Compare (.Name x np) [.Eq] [.Constant (.int j) kk mp] pos) ma σ K := ts_cmp rfl (ev_local l nofun (ev_cint (cmp_eq_int h)))
theorem ts_is_l {x : Str} {np mp pos : Pos} {a : AV} {kk : Nat} (l : Lk x a ma) (u : a ≠ .undef) (hf : ∀ n, a ≠ .fn n) (h : K (isNone a) σ) : TsTo cx r G KE (.Compare (.Name x np) [.Is] [.Constant .none kk mp] pos) ma σ K := ts_cmp rfl (ev_local l u (ev_cnone (cmp_is_none hf h)))
theorem ts_isnot_l {x : Str} {np mp pos : Pos} {a : AV} {kk : Nat} (l : Lk x a ma) (u : a ≠ .undef) (hf : ∀ n, a ≠ .fn n) (h : K (!isNone a) σ) : TsTo cx r G KE (.Compare (.Name x np) [.IsNot] [.Constant .none kk mp] pos) ma σ K := ts_cmp rfl (ev_local l u (ev_cnone (cmp_isnot_none hf h)))
theorem ts_cmp_i {e : Expr} {mp pos : Pos} {op : CmpOp} {i : Int} {kk : Nat} (hm : behindInMarks op (.Constant (.int i) kk mp) = false) (h : EvTo cx r G KE e ma σ (fun a σ1 => CmpTo cx r op a (I i) σ1 (fun z => K z σ1))) : TsTo cx r G KE (.Compare e [op] [.Constant (.int i) kk mp] pos) ma σ K :=
  ts_cmp hm fun A env Pr g s Q E hr hf F J q qe => h A env Pr g s Q E hr hf F J (fun g' σ' s' av v k => q g' σ' s' av v (ev_cint k)) qe
theorem ts_cmp_s {e : Expr} {mp pos : Pos} {op : CmpOp} {c : Str} {kk : Nat} (hm : behindInMarks op (.Constant (.str c) kk mp) = false) (h : EvTo cx r G KE e ma σ (fun a σ1 => CmpTo cx r op a (S c) σ1 (fun z => K z σ1))) : TsTo cx r G KE (.Compare e [op] [.Constant (.str c) kk mp] pos) ma σ K :=
  ts_cmp hm fun A env Pr g s Q E hr hf F J q qe => h A env Pr g s Q E hr hf F J (fun g' σ' s' av v k => q g' σ' s' av v (ev_cstr k)) qe
theorem ts_cmp_n {e : Expr} {mp pos : Pos} {op : CmpOp} {kk : Nat} (hm : behindInMarks op (.Constant .none kk mp) = false) (h : EvTo cx r G KE e ma σ (fun a σ1 => CmpTo cx r op a N σ1 (fun z => K z σ1))) : TsTo cx r G KE (.Compare e [op] [.Constant .none kk mp] pos) ma σ K :=
  ts_cmp hm fun A env Pr g s Q E hr hf F J q qe => h A env Pr g s Q E hr hf F J (fun g' σ' s' av v k => q g' σ' s' av v (ev_cnone k)) qe
theorem ts_l {x : Str} {np : Pos} {a : AV} (l : Lk x a ma) (u : a ≠ .undef) (h : TruTo cx r a σ (fun b => K b σ)) : TsTo cx r G KE (.Name x np) ma σ K := ts_value (fun _ _ => rfl) (ev_local l u h)
end
variable {K : Out → Loc → Sig → Prop} {rest : List Stmt} {pos : Pos}
theorem xs_ret {e : Expr} (h : EvTo cx r G KE e ma σ (fun a σ1 => K (.ret a) ma σ1)) : XsTo cx r G KE K (.Return (some e) pos :: rest) ma σ := xs_cons (ex_ret h)
theorem xs_ret_l {x : Str} {np : Pos} {a : AV} (l : Lk x a ma) (u : a ≠ .undef) (h : K (.ret a) ma σ) : XsTo cx r G KE K (.Return (some (.Name x np)) pos :: rest) ma σ := xs_cons (ex_ret (ev_local l u h))
theorem xs_ret_n {kk : Nat} {cp : Pos} (h : K (.ret N) ma σ) : XsTo cx r G KE K (.Return (some (.Constant .none kk cp)) pos :: rest) ma σ := xs_cons (ex_ret (ev_cnone h))
theorem xs_ret_i {i : Int} {kk : Nat} {cp : Pos} (h : K (.ret (I i)) ma σ) : XsTo cx r G KE K (.Return (some (.Constant (.int i) kk cp)) pos :: rest) ma σ := xs_cons (ex_ret (ev_cint h))
theorem xs_set {x : Str} {px : Pos} {value : Expr} (hsw : ∀ env, swapsWith value (some (.Name x px)) pos.line env = pure false) (h : EvTo cx r G KE value ma σ (fun a σ1 => StTo cx x a ma (fun ma1 => XsTo cx r G KE K rest ma1 σ1))) : XsTo cx r G KE K (.Assign [.Name x px] value pos :: rest) ma σ := xs_cons (ex_assign hsw h)
theorem xs_do {e : Expr} (hsw : ∀ env, swapsWith e none pos.line env = pure false) (h : EvTo cx r G KE e ma σ (fun _ σ1 => XsTo cx r G KE K rest ma σ1)) : XsTo cx r G KE K (.Expr e pos :: rest) ma σ := xs_cons (ex_expr hsw h)
theorem xs_if0 {t : Expr} {b : List Stmt} (h : TsTo cx r G KE t ma σ (fun z σ1 => Ways z (XsTo cx r G KE (Nx cx r G KE K rest) b ma σ1) (XsTo cx r G KE K rest ma σ1))) : XsTo cx r G KE K (.If t b [] pos :: rest) ma σ :=
  xs_cons (ex_if fun A env Pr g s Q E hr hf F J q qe => h A env Pr g s Q E hr hf F J (fun g' σ' s' z k => q g' σ' s' z ⟨k.1, fun e => xs_nil (k.2 e)⟩) qe)
theorem xs_if {t : Expr} {b o : List Stmt} (h : TsTo cx r G KE t ma σ (fun z σ1 => Ways z (XsTo cx r G KE (Nx cx r G KE K rest) b ma σ1) (XsTo cx r G KE (Nx cx r G KE K rest) o ma σ1))) : XsTo cx r G KE K (.If t b o pos :: rest) ma σ := xs_cons (ex_if h)
end
end Mine
end
section
open PySem PySem.W PySem.Spec PySem.Calls PyProof.Rows
set_option Elab.async false
set_option maxRecDepth 100000
namespace Mine
noncomputable abbrev P2 (n d : Int) : AV := .d (.tuple [.int n, .int d])
noncomputable def okS (s : Scope) : Bool := !s.isCoroutine && !s.isGenerator && s.kind == .function
theorem okS_of {s : Scope} (h : okS s = true) : s.isCoroutine = false ∧ s.isGenerator = false ∧ s.kind = .function := by
  unfold okS at h
  simp only [Bool.and_eq_true, Bool.not_eq_true', beq_iff_eq] at h
  exact ⟨h.1.1, h.1.2, h.2⟩
section
variable {K0 : Frag} {n p1 p2 p3 p4 p5 : Str} {s : Stmt} {q : String} {f c T : Addr} {dV pm : Value}
theorem fo0 (h1 : nsIn K0 mainGlobals n = some (some (.ref f))) (h2 : K0.lookup f = some (oFn s q dV pm (.ref c))) (h3 : codeIn K0 (.ref c) (Str.ofString q) = true)
    (hb : bindArgs (fnOf (sName s) (Str.ofString q) (sArgs s) (sBody s) (sScope s) dV .none .none pm none (.ref c) .none) ⟨[], []⟩ = pure []) (hs : okS (sScope s) = true) : FnOk0 K0 n  (sScope s).names (sBody s) :=
  let ⟨a, b, d⟩ := okS_of hs; .mk h1 h2 h3 hb a b d
theorem fo1 (h1 : nsIn K0 mainGlobals n = some (some (.ref f))) (h2 : K0.lookup f = some (oFn s q dV pm (.ref c))) (h3 : codeIn K0 (.ref c) (Str.ofString q) = true)
    (hb : ∀ v1, bindArgs (fnOf (sName s) (Str.ofString q) (sArgs s) (sBody s) (sScope s) dV .none .none pm none (.ref c) .none) ⟨[v1], []⟩ = pure [(p1, v1)]) (hs : okS (sScope s) = true) : FnOk1 K0 n p1 (sScope s).names (sBody s) :=
  let ⟨a, b, d⟩ := okS_of hs; .mk h1 h2 h3 hb a b d
theorem fo2 (h1 : nsIn K0 mainGlobals n = some (some (.ref f))) (h2 : K0.lookup f = some (oFn s q dV pm (.ref c))) (h3 : codeIn K0 (.ref c) (Str.ofString q) = true)
    (hb : ∀ v1 v2, bindArgs (fnOf (sName s) (Str.ofString q) (sArgs s) (sBody s) (sScope s) dV .none .none pm none (.ref c) .none) ⟨[v1, v2], []⟩ = pure [(p1, v1), (p2, v2)]) (hs : okS (sScope s) = true) : FnOk2 K0 n p1 p2 (sScope s).names (sBody s) :=
  let ⟨a, b, d⟩ := okS_of hs; .mk h1 h2 h3 hb a b d
theorem fo3 (h1 : nsIn K0 mainGlobals n = some (some (.ref f))) (h2 : K0.lookup f = some (oFn s q dV pm (.ref c))) (h3 : codeIn K0 (.ref c) (Str.ofString q) = true)
    (hb : ∀ v1 v2 v3, bindArgs (fnOf (sName s) (Str.ofString q) (sArgs s) (sBody s) (sScope s) dV .none .none pm none (.ref c) .none) ⟨[v1, v2, v3], []⟩ = pure [(p1, v1), (p2, v2), (p3, v3)]) (hs : okS (sScope s) = true) : FnOk3 K0 n p1 p2 p3 (sScope s).names (sBody s) :=
  let ⟨a, b, d⟩ := okS_of hs; .mk h1 h2 h3 hb a b d
theorem fo4 (h1 : nsIn K0 mainGlobals n = some (some (.ref f))) (h2 : K0.lookup f = some (oFn s q dV pm (.ref c))) (h3 : codeIn K0 (.ref c) (Str.ofString q) = true)
    (hb : ∀ v1 v2 v3 v4, bindArgs (fnOf (sName s) (Str.ofString q) (sArgs s) (sBody s) (sScope s) dV .none .none pm none (.ref c) .none) ⟨[v1, v2, v3, v4], []⟩ = pure [(p1, v1), (p2, v2), (p3, v3), (p4, v4)]) (hs : okS (sScope s) = true) : FnOk4 K0 n p1 p2 p3 p4 (sScope s).names (sBody s) :=
  let ⟨a, b, d⟩ := okS_of hs; .mk h1 h2 h3 hb a b d
theorem fo5 (h1 : nsIn K0 mainGlobals n = some (some (.ref f))) (h2 : K0.lookup f = some (oFn s q dV pm (.ref c))) (h3 : codeIn K0 (.ref c) (Str.ofString q) = true)
    (hb : ∀ v1 v2 v3 v4 v5, bindArgs (fnOf (sName s) (Str.ofString q) (sArgs s) (sBody s) (sScope s) dV .none .none pm none (.ref c) .none) ⟨[v1, v2, v3, v4, v5], []⟩ = pure [(p1, v1), (p2, v2), (p3, v3), (p4, v4), (p5, v5)]) (hs : okS (sScope s) = true) : FnOk5 K0 n p1 p2 p3 p4 p5 (sScope s).names (sBody s) :=
  let ⟨a, b, d⟩ := okS_of hs; .mk h1 h2 h3 hb a b d
theorem fo4d {kf : Option (Array Value) → Value → Value → Value → Value → Sem (List (Str × Value))} (h1 : nsIn K0 mainGlobals n = some (some (.ref f))) (h2 : K0.lookup f = some (oFn s q (.ref T) pm (.ref c))) (h3 : codeIn K0 (.ref c) (Str.ofString q) = true) (ho : K0.lookup T = some (oTup [.none] 0))
    (hb : ∀ v1 v2 v3 v4, bindArgs (fnOf (sName s) (Str.ofString q) (sArgs s) (sBody s) (sScope s) (.ref T) .none .none pm none (.ref c) .none) ⟨[v1, v2, v3, v4], []⟩ = seqItems? (.ref T) >>= fun x => kf x v1 v2 v3 v4)
    (hb2 : ∀ v1 v2 v3 v4, kf (some #[.none]) v1 v2 v3 v4 = pure [(p1, v1), (p2, v2), (p3, v3), (p4, v4), (p5, .none)]) (hs : okS (sScope s) = true) : FnOk4d K0 n p1 p2 p3 p4 p5 (sScope s).names (sBody s) :=
  let ⟨a, b, d⟩ := okS_of hs; .mk kf h1 h2 h3 ho rfl hb hb2 a b d
end
noncomputable def NL : List (String × Option Value) := [("gcd", some (.ref 78)), ("make", some (.ref 85)), ("from_int", some (.ref 92)), ("is_na", some (.ref 99)), ("is_finite", some (.ref 106)), ("neg", some (.ref 120)), ("add", some (.ref 127)), ("sub", some (.ref 134)), ("mul", some (.ref 141)), ("div", some (.ref 148)), ("power", some (.ref 169)), ("whole_power", some (.ref 190)), ("floor", some (.ref 197)), ("int_div", some (.ref 218)), ("remainder", some (.ref 225)), ("compare", some (.ref 232)), ("length", some (.ref 318)), ("is_atomic", some (.ref 325)), ("share", some (.ref 332)), ("recycle_length", some (.ref 339)), ("note_recycling", some (.ref 346)), ("result_dim", some (.ref 360)), ("note_array_of_one", some (.ref 367)), ("common_length", some (.ref 374)), ("attribute", some (.ref 381)), ("shape_attrs", some (.ref 388)), ("result_attrs", some (.ref 395)), ("integer_op", some (.ref 402)), ("double_op", some (.ref 409)), ("number_items", some (.ref 416)), ("double_items_arith", some (.ref 421)), ("double_items_compare", some (.ref 587)), ("integer_result", some (.ref 428)), ("double_result", some (.ref 433)), ("arith", some (.ref 440)), ("keep_all", some (.ref 447)), ("check_unary", some (.ref 454)), ("negate", some (.ref 459)), ("holds", some (.ref 563)), ("plain_order", some (.ref 570)), ("comparable", some (.ref 577)), ("compare_op", some (.ref 593)), ("and_items", some (.ref 600)), ("or_items", some (.ref 607)), ("not_item", some (.ref 614)), ("truth_item", some (.ref 621)), ("truth_items", some (.ref 626)), ("logic_operand", some (.ref 633)), ("logic_pairs", some (.ref 638)), ("logic_and", some (.ref 645)), ("logic_or", some (.ref 652)), ("logic_not", some (.ref 657)), ("arith_names", some (.ref 664)), ("compare_names", some (.ref 671)), ("safe_names", some (.ref 678)), ("is_constant", some (.ref 685)), ("plain_call_name", some (.ref 692)), ("unary_value", some (.ref 699)), ("binary_value", some (.ref 706)), ("call_value", some (.ref 713)), ("fold", some (.ref 720)), ("fold_uses", some (.ref 727)), ("_law_pool", some (.ref 734)), ("_law_pick", some (.ref 741)), ("_law_reduced", some (.ref 748)), ("_law_tree", some (.ref 753)), ("_law_value", some (.ref 758)), ("_law_pair", some (.ref 765)), ("_law_numbers", some (.ref 772)), ("_law_reckoned", some (.ref 777)), ("_law_uses", some (.ref 784)), ("law", some (.ref 789)), ("get_attr", some (.ref 28)), ("dim_of", some (.ref 35)), ("len", none), ("abs", none), ("max", none), ("min", none), ("isinstance", none), ("int", none), ("range", none), ("reversed", none), ("tuple", none), ("list", none), ("dict", none), ("Vector", some (.ref 257)), ("Symbol", some (.ref 278)), ("Call", some (.ref 300)), ("Refusal", some (.ref 65))]
theorem NA0 (P : Params) : NL.map (fun x => nsIn (HK P) mainGlobals (Str.ofString x.1)) = NL.map (fun x => some x.2) := by kernel_rfl
theorem map_at {α β : Type} {l : List α} {f g : α → β} (h : l.map f = l.map g) {i : Nat} {x : α} (e : l[i]? = some x) : f x = g x := by
  have := congrArg (·[i]?) h
  simpa only [List.getElem?_map, e, Option.map_some, Option.some.injEq] using this
theorem NA (P : Params) {s : String} {v : Option Value} (i : Nat) (e : NL[i]? = some (s, v)) : nsIn (HK P) mainGlobals (Str.ofString s) = some v := map_at (NA0 P) e
theorem ns_gcd (P : Params) : nsIn (HK P) mainGlobals (Str.ofString "gcd") = some (some (.ref 78)) := NA P 0 rfl
theorem gv_gcd {cx : Cx} {P : Params} (hK : cx.K = HK P) : GV cx (Str.ofString "gcd", .fn (Str.ofString "gcd")) := gv_fn hK (ns_gcd P)
theorem fo_gcd (P : Params) : FnOk2 (HK P) "gcd" "a" "b" (sScope (stm 13)).names (sBody (stm 13)) := fo2 (q := "gcd") (f := 78) (c := 77) (dV := .none) (pm := (vS "vectorcove.rational" 259)) (ns_gcd P) (by kernel_rfl) (by kernel_rfl) (fun _ _ => by kernel_rfl) (by kernel_rfl)
theorem ns_make (P : Params) : nsIn (HK P) mainGlobals (Str.ofString "make") = some (some (.ref 85)) := NA P 1 rfl
theorem gv_make {cx : Cx} {P : Params} (hK : cx.K = HK P) : GV cx (Str.ofString "make", .fn (Str.ofString "make")) := gv_fn hK (ns_make P)
theorem fo_make (P : Params) : FnOk2 (HK P) "make" "n" "d" (sScope (stm 14)).names (sBody (stm 14)) := fo2 (q := "make") (f := 85) (c := 84) (dV := .none) (pm := (vS "vectorcove.rational" 259)) (ns_make P) (by kernel_rfl) (by kernel_rfl) (fun _ _ => by kernel_rfl) (by kernel_rfl)
theorem ns_from_int (P : Params) : nsIn (HK P) mainGlobals (Str.ofString "from_int") = some (some (.ref 92)) := NA P 2 rfl
theorem gv_from_int {cx : Cx} {P : Params} (hK : cx.K = HK P) : GV cx (Str.ofString "from_int", .fn (Str.ofString "from_int")) := gv_fn hK (ns_from_int P)
theorem fo_from_int (P : Params) : FnOk1 (HK P) "from_int" "n" (sScope (stm 15)).names (sBody (stm 15)) := fo1 (q := "from_int") (f := 92) (c := 91) (dV := .none) (pm := (vS "vectorcove.rational" 259)) (ns_from_int P) (by kernel_rfl) (by kernel_rfl) (fun _ => by kernel_rfl) (by kernel_rfl)
theorem ns_is_na (P : Params) : nsIn (HK P) mainGlobals (Str.ofString "is_na") = some (some (.ref 99)) := NA P 3 rfl
theorem gv_is_na {cx : Cx} {P : Params} (hK : cx.K = HK P) : GV cx (Str.ofString "is_na", .fn (Str.ofString "is_na")) := gv_fn hK (ns_is_na P)
theorem fo_is_na (P : Params) : FnOk1 (HK P) "is_na" "x" (sScope (stm 16)).names (sBody (stm 16)) := fo1 (q := "is_na") (f := 99) (c := 98) (dV := .none) (pm := (vS "vectorcove.rational" 259)) (ns_is_na P) (by kernel_rfl) (by kernel_rfl) (fun _ => by kernel_rfl) (by kernel_rfl)
theorem ns_is_finite (P : Params) : nsIn (HK P) mainGlobals (Str.ofString "is_finite") = some (some (.ref 106)) := NA P 4 rfl
theorem gv_is_finite {cx : Cx} {P : Params} (hK : cx.K = HK P) : GV cx (Str.ofString "is_finite", .fn (Str.ofString "is_finite")) := gv_fn hK (ns_is_finite P)
theorem fo_is_finite (P : Params) : FnOk1 (HK P) "is_finite" "x" (sScope (stm 17)).names (sBody (stm 17)) := fo1 (q := "is_finite") (f := 106) (c := 105) (dV := .none) (pm := (vS "vectorcove.rational" 259)) (ns_is_finite P) (by kernel_rfl) (by kernel_rfl) (fun _ => by kernel_rfl) (by kernel_rfl)
theorem ns_neg (P : Params) : nsIn (HK P) mainGlobals (Str.ofString "neg") = some (some (.ref 120)) := NA P 5 rfl
theorem gv_neg {cx : Cx} {P : Params} (hK : cx.K = HK P) : GV cx (Str.ofString "neg", .fn (Str.ofString "neg")) := gv_fn hK (ns_neg P)
theorem fo_neg (P : Params) : FnOk1 (HK P) "neg" "x" (sScope (stm 19)).names (sBody (stm 19)) := fo1 (q := "neg") (f := 120) (c := 119) (dV := .none) (pm := (vS "vectorcove.rational" 259)) (ns_neg P) (by kernel_rfl) (by kernel_rfl) (fun _ => by kernel_rfl) (by kernel_rfl)
theorem ns_add (P : Params) : nsIn (HK P) mainGlobals (Str.ofString "add") = some (some (.ref 127)) := NA P 6 rfl
theorem gv_add {cx : Cx} {P : Params} (hK : cx.K = HK P) : GV cx (Str.ofString "add", .fn (Str.ofString "add")) := gv_fn hK (ns_add P)
theorem fo_add (P : Params) : FnOk2 (HK P) "add" "x" "y" (sScope (stm 20)).names (sBody (stm 20)) := fo2 (q := "add") (f := 127) (c := 126) (dV := .none) (pm := (vS "vectorcove.rational" 259)) (ns_add P) (by kernel_rfl) (by kernel_rfl) (fun _ _ => by kernel_rfl) (by kernel_rfl)
theorem ns_sub (P : Params) : nsIn (HK P) mainGlobals (Str.ofString "sub") = some (some (.ref 134)) := NA P 7 rfl
theorem gv_sub {cx : Cx} {P : Params} (hK : cx.K = HK P) : GV cx (Str.ofString "sub", .fn (Str.ofString "sub")) := gv_fn hK (ns_sub P)
theorem fo_sub (P : Params) : FnOk2 (HK P) "sub" "x" "y" (sScope (stm 21)).names (sBody (stm 21)) := fo2 (q := "sub") (f := 134) (c := 133) (dV := .none) (pm := (vS "vectorcove.rational" 259)) (ns_sub P) (by kernel_rfl) (by kernel_rfl) (fun _ _ => by kernel_rfl) (by kernel_rfl)
theorem ns_mul (P : Params) : nsIn (HK P) mainGlobals (Str.ofString "mul") = some (some (.ref 141)) := NA P 8 rfl
theorem gv_mul {cx : Cx} {P : Params} (hK : cx.K = HK P) : GV cx (Str.ofString "mul", .fn (Str.ofString "mul")) := gv_fn hK (ns_mul P)
theorem fo_mul (P : Params) : FnOk2 (HK P) "mul" "x" "y" (sScope (stm 22)).names (sBody (stm 22)) := fo2 (q := "mul") (f := 141) (c := 140) (dV := .none) (pm := (vS "vectorcove.rational" 259)) (ns_mul P) (by kernel_rfl) (by kernel_rfl) (fun _ _ => by kernel_rfl) (by kernel_rfl)
theorem ns_div (P : Params) : nsIn (HK P) mainGlobals (Str.ofString "div") = some (some (.ref 148)) := NA P 9 rfl
theorem gv_div {cx : Cx} {P : Params} (hK : cx.K = HK P) : GV cx (Str.ofString "div", .fn (Str.ofString "div")) := gv_fn hK (ns_div P)
theorem fo_div (P : Params) : FnOk2 (HK P) "div" "x" "y" (sScope (stm 23)).names (sBody (stm 23)) := fo2 (q := "div") (f := 148) (c := 147) (dV := .none) (pm := (vS "vectorcove.rational" 259)) (ns_div P) (by kernel_rfl) (by kernel_rfl) (fun _ _ => by kernel_rfl) (by kernel_rfl)
theorem ns_power (P : Params) : nsIn (HK P) mainGlobals (Str.ofString "power") = some (some (.ref 169)) := NA P 10 rfl
theorem gv_power {cx : Cx} {P : Params} (hK : cx.K = HK P) : GV cx (Str.ofString "power", .fn (Str.ofString "power")) := gv_fn hK (ns_power P)
theorem fo_power (P : Params) : FnOk2 (HK P) "power" "x" "y" (sScope (stm 26)).names (sBody (stm 26)) := fo2 (q := "power") (f := 169) (c := 168) (dV := .none) (pm := (vS "vectorcove.rational" 259)) (ns_power P) (by kernel_rfl) (by kernel_rfl) (fun _ _ => by kernel_rfl) (by kernel_rfl)
theorem ns_whole_power (P : Params) : nsIn (HK P) mainGlobals (Str.ofString "whole_power") = some (some (.ref 190)) := NA P 11 rfl
theorem gv_whole_power {cx : Cx} {P : Params} (hK : cx.K = HK P) : GV cx (Str.ofString "whole_power", .fn (Str.ofString "whole_power")) := gv_fn hK (ns_whole_power P)
theorem fo_whole_power (P : Params) : FnOk2 (HK P) "whole_power" "x" "n" (sScope (stm 29)).names (sBody (stm 29)) := fo2 (q := "whole_power") (f := 190) (c := 189) (dV := .none) (pm := (vS "vectorcove.rational" 259)) (ns_whole_power P) (by kernel_rfl) (by kernel_rfl) (fun _ _ => by kernel_rfl) (by kernel_rfl)
theorem ns_floor (P : Params) : nsIn (HK P) mainGlobals (Str.ofString "floor") = some (some (.ref 197)) := NA P 12 rfl
theorem gv_floor {cx : Cx} {P : Params} (hK : cx.K = HK P) : GV cx (Str.ofString "floor", .fn (Str.ofString "floor")) := gv_fn hK (ns_floor P)
theorem fo_floor (P : Params) : FnOk1 (HK P) "floor" "x" (sScope (stm 30)).names (sBody (stm 30)) := fo1 (q := "floor") (f := 197) (c := 196) (dV := .none) (pm := (vS "vectorcove.rational" 259)) (ns_floor P) (by kernel_rfl) (by kernel_rfl) (fun _ => by kernel_rfl) (by kernel_rfl)
theorem ns_int_div (P : Params) : nsIn (HK P) mainGlobals (Str.ofString "int_div") = some (some (.ref 218)) := NA P 13 rfl
theorem gv_int_div {cx : Cx} {P : Params} (hK : cx.K = HK P) : GV cx (Str.ofString "int_div", .fn (Str.ofString "int_div")) := gv_fn hK (ns_int_div P)
theorem fo_int_div (P : Params) : FnOk2 (HK P) "int_div" "x" "y" (sScope (stm 33)).names (sBody (stm 33)) := fo2 (q := "int_div") (f := 218) (c := 217) (dV := .none) (pm := (vS "vectorcove.rational" 259)) (ns_int_div P) (by kernel_rfl) (by kernel_rfl) (fun _ _ => by kernel_rfl) (by kernel_rfl)
theorem ns_remainder (P : Params) : nsIn (HK P) mainGlobals (Str.ofString "remainder") = some (some (.ref 225)) := NA P 14 rfl
theorem gv_remainder {cx : Cx} {P : Params} (hK : cx.K = HK P) : GV cx (Str.ofString "remainder", .fn (Str.ofString "remainder")) := gv_fn hK (ns_remainder P)
theorem fo_remainder (P : Params) : FnOk2 (HK P) "remainder" "x" "y" (sScope (stm 34)).names (sBody (stm 34)) := fo2 (q := "remainder") (f := 225) (c := 224) (dV := .none) (pm := (vS "vectorcove.rational" 259)) (ns_remainder P) (by kernel_rfl) (by kernel_rfl) (fun _ _ => by kernel_rfl) (by kernel_rfl)
theorem ns_compare (P : Params) : nsIn (HK P) mainGlobals (Str.ofString "compare") = some (some (.ref 232)) := NA P 15 rfl
theorem gv_compare {cx : Cx} {P : Params} (hK : cx.K = HK P) : GV cx (Str.ofString "compare", .fn (Str.ofString "compare")) := gv_fn hK (ns_compare P)
theorem fo_compare (P : Params) : FnOk2 (HK P) "compare" "x" "y" (sScope (stm 35)).names (sBody (stm 35)) := fo2 (q := "compare") (f := 232) (c := 231) (dV := .none) (pm := (vS "vectorcove.rational" 259)) (ns_compare P) (by kernel_rfl) (by kernel_rfl) (fun _ _ => by kernel_rfl) (by kernel_rfl)
theorem ns_length (P : Params) : nsIn (HK P) mainGlobals (Str.ofString "length") = some (some (.ref 318)) := NA P 16 rfl
theorem gv_length {cx : Cx} {P : Params} (hK : cx.K = HK P) : GV cx (Str.ofString "length", .fn (Str.ofString "length")) := gv_fn hK (ns_length P)
theorem fo_length (P : Params) : FnOk1 (HK P) "length" "v" (sScope (stm 41)).names (sBody (stm 41)) := fo1 (q := "length") (f := 318) (c := 317) (dV := .none) (pm := (vS "vectorcove.values" 465)) (ns_length P) (by kernel_rfl) (by kernel_rfl) (fun _ => by kernel_rfl) (by kernel_rfl)
theorem ns_is_atomic (P : Params) : nsIn (HK P) mainGlobals (Str.ofString "is_atomic") = some (some (.ref 325)) := NA P 17 rfl
theorem gv_is_atomic {cx : Cx} {P : Params} (hK : cx.K = HK P) : GV cx (Str.ofString "is_atomic", .fn (Str.ofString "is_atomic")) := gv_fn hK (ns_is_atomic P)
theorem fo_is_atomic (P : Params) : FnOk1 (HK P) "is_atomic" "v" (sScope (stm 42)).names (sBody (stm 42)) := fo1 (q := "is_atomic") (f := 325) (c := 324) (dV := .none) (pm := (vS "vectorcove.values" 465)) (ns_is_atomic P) (by kernel_rfl) (by kernel_rfl) (fun _ => by kernel_rfl) (by kernel_rfl)
theorem ns_share (P : Params) : nsIn (HK P) mainGlobals (Str.ofString "share") = some (some (.ref 332)) := NA P 18 rfl
theorem gv_share {cx : Cx} {P : Params} (hK : cx.K = HK P) : GV cx (Str.ofString "share", .fn (Str.ofString "share")) := gv_fn hK (ns_share P)
theorem fo_share (P : Params) : FnOk1 (HK P) "share" "v" (sScope (stm 43)).names (sBody (stm 43)) := fo1 (q := "share") (f := 332) (c := 331) (dV := .none) (pm := (vS "vectorcove.values" 465)) (ns_share P) (by kernel_rfl) (by kernel_rfl) (fun _ => by kernel_rfl) (by kernel_rfl)
theorem ns_recycle_length (P : Params) : nsIn (HK P) mainGlobals (Str.ofString "recycle_length") = some (some (.ref 339)) := NA P 19 rfl
theorem gv_recycle_length {cx : Cx} {P : Params} (hK : cx.K = HK P) : GV cx (Str.ofString "recycle_length", .fn (Str.ofString "recycle_length")) := gv_fn hK (ns_recycle_length P)
theorem fo_recycle_length (P : Params) : FnOk2 (HK P) "recycle_length" "n" "m" (sScope (stm 46)).names (sBody (stm 46)) := fo2 (q := "recycle_length") (f := 339) (c := 338) (dV := .none) (pm := (vS "vectorcove.arith" 604)) (ns_recycle_length P) (by kernel_rfl) (by kernel_rfl) (fun _ _ => by kernel_rfl) (by kernel_rfl)
theorem ns_note_recycling (P : Params) : nsIn (HK P) mainGlobals (Str.ofString "note_recycling") = some (some (.ref 346)) := NA P 20 rfl
theorem gv_note_recycling {cx : Cx} {P : Params} (hK : cx.K = HK P) : GV cx (Str.ofString "note_recycling", .fn (Str.ofString "note_recycling")) := gv_fn hK (ns_note_recycling P)
theorem fo_note_recycling (P : Params) : FnOk3 (HK P) "note_recycling" "n" "m" "notes" (sScope (stm 47)).names (sBody (stm 47)) := fo3 (q := "note_recycling") (f := 346) (c := 345) (dV := .none) (pm := (vS "vectorcove.arith" 604)) (ns_note_recycling P) (by kernel_rfl) (by kernel_rfl) (fun _ _ _ => by kernel_rfl) (by kernel_rfl)
theorem ns_result_dim (P : Params) : nsIn (HK P) mainGlobals (Str.ofString "result_dim") = some (some (.ref 360)) := NA P 21 rfl
theorem gv_result_dim {cx : Cx} {P : Params} (hK : cx.K = HK P) : GV cx (Str.ofString "result_dim", .fn (Str.ofString "result_dim")) := gv_fn hK (ns_result_dim P)
theorem fo_result_dim (P : Params) : FnOk2 (HK P) "result_dim" "u" "v" (sScope (stm 49)).names (sBody (stm 49)) := fo2 (q := "result_dim") (f := 360) (c := 359) (dV := .none) (pm := (vS "vectorcove.arith" 604)) (ns_result_dim P) (by kernel_rfl) (by kernel_rfl) (fun _ _ => by kernel_rfl) (by kernel_rfl)
theorem ns_note_array_of_one (P : Params) : nsIn (HK P) mainGlobals (Str.ofString "note_array_of_one") = some (some (.ref 367)) := NA P 22 rfl
theorem gv_note_array_of_one {cx : Cx} {P : Params} (hK : cx.K = HK P) : GV cx (Str.ofString "note_array_of_one", .fn (Str.ofString "note_array_of_one")) := gv_fn hK (ns_note_array_of_one P)
theorem fo_note_array_of_one (P : Params) : FnOk3 (HK P) "note_array_of_one" "u" "v" "notes" (sScope (stm 50)).names (sBody (stm 50)) := fo3 (q := "note_array_of_one") (f := 367) (c := 366) (dV := .none) (pm := (vS "vectorcove.arith" 604)) (ns_note_array_of_one P) (by kernel_rfl) (by kernel_rfl) (fun _ _ _ => by kernel_rfl) (by kernel_rfl)
theorem ns_common_length (P : Params) : nsIn (HK P) mainGlobals (Str.ofString "common_length") = some (some (.ref 374)) := NA P 23 rfl
theorem gv_common_length {cx : Cx} {P : Params} (hK : cx.K = HK P) : GV cx (Str.ofString "common_length", .fn (Str.ofString "common_length")) := gv_fn hK (ns_common_length P)
theorem fo_common_length (P : Params) : FnOk3 (HK P) "common_length" "u" "v" "notes" (sScope (stm 51)).names (sBody (stm 51)) := fo3 (q := "common_length") (f := 374) (c := 373) (dV := .none) (pm := (vS "vectorcove.arith" 604)) (ns_common_length P) (by kernel_rfl) (by kernel_rfl) (fun _ _ _ => by kernel_rfl) (by kernel_rfl)
theorem ns_attribute (P : Params) : nsIn (HK P) mainGlobals (Str.ofString "attribute") = some (some (.ref 381)) := NA P 24 rfl
theorem gv_attribute {cx : Cx} {P : Params} (hK : cx.K = HK P) : GV cx (Str.ofString "attribute", .fn (Str.ofString "attribute")) := gv_fn hK (ns_attribute P)
theorem fo_attribute (P : Params) : FnOk2 (HK P) "attribute" "v" "name" (sScope (stm 52)).names (sBody (stm 52)) := fo2 (q := "attribute") (f := 381) (c := 380) (dV := .none) (pm := (vS "vectorcove.arith" 604)) (ns_attribute P) (by kernel_rfl) (by kernel_rfl) (fun _ _ => by kernel_rfl) (by kernel_rfl)
theorem ns_shape_attrs (P : Params) : nsIn (HK P) mainGlobals (Str.ofString "shape_attrs") = some (some (.ref 388)) := NA P 25 rfl
theorem gv_shape_attrs {cx : Cx} {P : Params} (hK : cx.K = HK P) : GV cx (Str.ofString "shape_attrs", .fn (Str.ofString "shape_attrs")) := gv_fn hK (ns_shape_attrs P)
theorem fo_shape_attrs (P : Params) : FnOk3 (HK P) "shape_attrs" "u" "v" "result" (sScope (stm 53)).names (sBody (stm 53)) := fo3 (q := "shape_attrs") (f := 388) (c := 387) (dV := .none) (pm := (vS "vectorcove.arith" 604)) (ns_shape_attrs P) (by kernel_rfl) (by kernel_rfl) (fun _ _ _ => by kernel_rfl) (by kernel_rfl)
theorem ns_result_attrs (P : Params) : nsIn (HK P) mainGlobals (Str.ofString "result_attrs") = some (some (.ref 395)) := NA P 26 rfl
theorem gv_result_attrs {cx : Cx} {P : Params} (hK : cx.K = HK P) : GV cx (Str.ofString "result_attrs", .fn (Str.ofString "result_attrs")) := gv_fn hK (ns_result_attrs P)
theorem fo_result_attrs (P : Params) : FnOk3 (HK P) "result_attrs" "u" "v" "result" (sScope (stm 54)).names (sBody (stm 54)) := fo3 (q := "result_attrs") (f := 395) (c := 394) (dV := .none) (pm := (vS "vectorcove.arith" 604)) (ns_result_attrs P) (by kernel_rfl) (by kernel_rfl) (fun _ _ _ => by kernel_rfl) (by kernel_rfl)
theorem ns_integer_op (P : Params) : nsIn (HK P) mainGlobals (Str.ofString "integer_op") = some (some (.ref 402)) := NA P 27 rfl
theorem gv_integer_op {cx : Cx} {P : Params} (hK : cx.K = HK P) : GV cx (Str.ofString "integer_op", .fn (Str.ofString "integer_op")) := gv_fn hK (ns_integer_op P)
theorem fo_integer_op (P : Params) : FnOk3 (HK P) "integer_op" "op" "a" "b" (sScope (stm 55)).names (sBody (stm 55)) := fo3 (q := "integer_op") (f := 402) (c := 401) (dV := .none) (pm := (vS "vectorcove.arith" 604)) (ns_integer_op P) (by kernel_rfl) (by kernel_rfl) (fun _ _ _ => by kernel_rfl) (by kernel_rfl)
theorem ns_double_op (P : Params) : nsIn (HK P) mainGlobals (Str.ofString "double_op") = some (some (.ref 409)) := NA P 28 rfl
theorem gv_double_op {cx : Cx} {P : Params} (hK : cx.K = HK P) : GV cx (Str.ofString "double_op", .fn (Str.ofString "double_op")) := gv_fn hK (ns_double_op P)
theorem fo_double_op (P : Params) : FnOk3 (HK P) "double_op" "op" "x" "y" (sScope (stm 56)).names (sBody (stm 56)) := fo3 (q := "double_op") (f := 409) (c := 408) (dV := .none) (pm := (vS "vectorcove.arith" 604)) (ns_double_op P) (by kernel_rfl) (by kernel_rfl) (fun _ _ _ => by kernel_rfl) (by kernel_rfl)
theorem ns_number_items (P : Params) : nsIn (HK P) mainGlobals (Str.ofString "number_items") = some (some (.ref 416)) := NA P 29 rfl
theorem gv_number_items {cx : Cx} {P : Params} (hK : cx.K = HK P) : GV cx (Str.ofString "number_items", .fn (Str.ofString "number_items")) := gv_fn hK (ns_number_items P)
theorem fo_number_items (P : Params) : FnOk1 (HK P) "number_items" "v" (sScope (stm 57)).names (sBody (stm 57)) := fo1 (q := "number_items") (f := 416) (c := 415) (dV := .none) (pm := (vS "vectorcove.arith" 604)) (ns_number_items P) (by kernel_rfl) (by kernel_rfl) (fun _ => by kernel_rfl) (by kernel_rfl)
theorem ns_double_items_arith (P : Params) : nsIn (HK P) mainGlobals (Str.ofString "double_items_arith") = some (some (.ref 421)) := NA P 30 rfl
theorem gv_double_items_arith {cx : Cx} {P : Params} (hK : cx.K = HK P) : GV cx (Str.ofString "double_items_arith", .fn (Str.ofString "double_items_arith")) := gv_fn hK (ns_double_items_arith P)
theorem fo_double_items_arith (P : Params) : FnOk1 (HK P) "double_items_arith" "v" (sScope (stm 58)).names (sBody (stm 58)) := fo1 (q := "double_items") (f := 421) (c := 420) (dV := .none) (pm := (vS "vectorcove.arith" 604)) (ns_double_items_arith P) (by kernel_rfl) (by kernel_rfl) (fun _ => by kernel_rfl) (by kernel_rfl)
theorem ns_double_items_compare (P : Params) : nsIn (HK P) mainGlobals (Str.ofString "double_items_compare") = some (some (.ref 587)) := NA P 31 rfl
theorem gv_double_items_compare {cx : Cx} {P : Params} (hK : cx.K = HK P) : GV cx (Str.ofString "double_items_compare", .fn (Str.ofString "double_items_compare")) := gv_fn hK (ns_double_items_compare P)
theorem fo_double_items_compare (P : Params) : FnOk1 (HK P) "double_items_compare" "v" (sScope (stm 87)).names (sBody (stm 87)) := fo1 (q := "double_items") (f := 587) (c := 586) (dV := .none) (pm := (vS "vectorcove.compare" 934)) (ns_double_items_compare P) (by kernel_rfl) (by kernel_rfl) (fun _ => by kernel_rfl) (by kernel_rfl)
theorem ns_integer_result (P : Params) : nsIn (HK P) mainGlobals (Str.ofString "integer_result") = some (some (.ref 428)) := NA P 32 rfl
theorem gv_integer_result {cx : Cx} {P : Params} (hK : cx.K = HK P) : GV cx (Str.ofString "integer_result", .fn (Str.ofString "integer_result")) := gv_fn hK (ns_integer_result P)
theorem fo_integer_result (P : Params) : FnOk5 (HK P) "integer_result" "op" "left" "right" "n" "notes" (sScope (stm 60)).names (sBody (stm 60)) := fo5 (q := "integer_result") (f := 428) (c := 427) (dV := .none) (pm := (vS "vectorcove.arith" 604)) (ns_integer_result P) (by kernel_rfl) (by kernel_rfl) (fun _ _ _ _ _ => by kernel_rfl) (by kernel_rfl)
theorem ns_double_result (P : Params) : nsIn (HK P) mainGlobals (Str.ofString "double_result") = some (some (.ref 433)) := NA P 33 rfl
theorem gv_double_result {cx : Cx} {P : Params} (hK : cx.K = HK P) : GV cx (Str.ofString "double_result", .fn (Str.ofString "double_result")) := gv_fn hK (ns_double_result P)
theorem fo_double_result (P : Params) : FnOk4 (HK P) "double_result" "op" "left" "right" "n" (sScope (stm 61)).names (sBody (stm 61)) := fo4 (q := "double_result") (f := 433) (c := 432) (dV := .none) (pm := (vS "vectorcove.arith" 604)) (ns_double_result P) (by kernel_rfl) (by kernel_rfl) (fun _ _ _ _ => by kernel_rfl) (by kernel_rfl)
theorem ns_arith (P : Params) : nsIn (HK P) mainGlobals (Str.ofString "arith") = some (some (.ref 440)) := NA P 34 rfl
theorem gv_arith {cx : Cx} {P : Params} (hK : cx.K = HK P) : GV cx (Str.ofString "arith", .fn (Str.ofString "arith")) := gv_fn hK (ns_arith P)
theorem fo_arith (P : Params) : FnOk4 (HK P) "arith" "op" "u" "v" "notes" (sScope (stm 62)).names (sBody (stm 62)) := fo4 (q := "arith") (f := 440) (c := 439) (dV := .none) (pm := (vS "vectorcove.arith" 604)) (ns_arith P) (by kernel_rfl) (by kernel_rfl) (fun _ _ _ _ => by kernel_rfl) (by kernel_rfl)
theorem ns_keep_all (P : Params) : nsIn (HK P) mainGlobals (Str.ofString "keep_all") = some (some (.ref 447)) := NA P 35 rfl
theorem gv_keep_all {cx : Cx} {P : Params} (hK : cx.K = HK P) : GV cx (Str.ofString "keep_all", .fn (Str.ofString "keep_all")) := gv_fn hK (ns_keep_all P)
theorem fo_keep_all (P : Params) : FnOk2 (HK P) "keep_all" "v" "result" (sScope (stm 63)).names (sBody (stm 63)) := fo2 (q := "keep_all") (f := 447) (c := 446) (dV := .none) (pm := (vS "vectorcove.arith" 604)) (ns_keep_all P) (by kernel_rfl) (by kernel_rfl) (fun _ _ => by kernel_rfl) (by kernel_rfl)
theorem ns_check_unary (P : Params) : nsIn (HK P) mainGlobals (Str.ofString "check_unary") = some (some (.ref 454)) := NA P 36 rfl
theorem gv_check_unary {cx : Cx} {P : Params} (hK : cx.K = HK P) : GV cx (Str.ofString "check_unary", .fn (Str.ofString "check_unary")) := gv_fn hK (ns_check_unary P)
theorem fo_check_unary (P : Params) : FnOk1 (HK P) "check_unary" "v" (sScope (stm 64)).names (sBody (stm 64)) := fo1 (q := "check_unary") (f := 454) (c := 453) (dV := .none) (pm := (vS "vectorcove.arith" 604)) (ns_check_unary P) (by kernel_rfl) (by kernel_rfl) (fun _ => by kernel_rfl) (by kernel_rfl)
theorem ns_negate (P : Params) : nsIn (HK P) mainGlobals (Str.ofString "negate") = some (some (.ref 459)) := NA P 37 rfl
theorem gv_negate {cx : Cx} {P : Params} (hK : cx.K = HK P) : GV cx (Str.ofString "negate", .fn (Str.ofString "negate")) := gv_fn hK (ns_negate P)
theorem fo_negate (P : Params) : FnOk2 (HK P) "negate" "v" "notes" (sScope (stm 65)).names (sBody (stm 65)) := fo2 (q := "negate") (f := 459) (c := 458) (dV := .none) (pm := (vS "vectorcove.arith" 604)) (ns_negate P) (by kernel_rfl) (by kernel_rfl) (fun _ _ => by kernel_rfl) (by kernel_rfl)
theorem ns_holds (P : Params) : nsIn (HK P) mainGlobals (Str.ofString "holds") = some (some (.ref 563)) := NA P 38 rfl
theorem gv_holds {cx : Cx} {P : Params} (hK : cx.K = HK P) : GV cx (Str.ofString "holds", .fn (Str.ofString "holds")) := gv_fn hK (ns_holds P)
theorem fo_holds (P : Params) : FnOk2 (HK P) "holds" "op" "order" (sScope (stm 83)).names (sBody (stm 83)) := fo2 (q := "holds") (f := 563) (c := 562) (dV := .none) (pm := (vS "vectorcove.compare" 934)) (ns_holds P) (by kernel_rfl) (by kernel_rfl) (fun _ _ => by kernel_rfl) (by kernel_rfl)
theorem ns_plain_order (P : Params) : nsIn (HK P) mainGlobals (Str.ofString "plain_order") = some (some (.ref 570)) := NA P 39 rfl
theorem gv_plain_order {cx : Cx} {P : Params} (hK : cx.K = HK P) : GV cx (Str.ofString "plain_order", .fn (Str.ofString "plain_order")) := gv_fn hK (ns_plain_order P)
theorem fo_plain_order (P : Params) : FnOk2 (HK P) "plain_order" "a" "b" (sScope (stm 84)).names (sBody (stm 84)) := fo2 (q := "plain_order") (f := 570) (c := 569) (dV := .none) (pm := (vS "vectorcove.compare" 934)) (ns_plain_order P) (by kernel_rfl) (by kernel_rfl) (fun _ _ => by kernel_rfl) (by kernel_rfl)
theorem ns_comparable (P : Params) : nsIn (HK P) mainGlobals (Str.ofString "comparable") = some (some (.ref 577)) := NA P 40 rfl
theorem gv_comparable {cx : Cx} {P : Params} (hK : cx.K = HK P) : GV cx (Str.ofString "comparable", .fn (Str.ofString "comparable")) := gv_fn hK (ns_comparable P)
theorem fo_comparable (P : Params) : FnOk3 (HK P) "comparable" "op" "v" "show" (sScope (stm 85)).names (sBody (stm 85)) := fo3 (q := "comparable") (f := 577) (c := 576) (dV := .none) (pm := (vS "vectorcove.compare" 934)) (ns_comparable P) (by kernel_rfl) (by kernel_rfl) (fun _ _ _ => by kernel_rfl) (by kernel_rfl)
theorem ns_compare_op (P : Params) : nsIn (HK P) mainGlobals (Str.ofString "compare_op") = some (some (.ref 593)) := NA P 41 rfl
theorem gv_compare_op {cx : Cx} {P : Params} (hK : cx.K = HK P) : GV cx (Str.ofString "compare_op", .fn (Str.ofString "compare_op")) := gv_fn hK (ns_compare_op P)
theorem fo_compare_op (P : Params) : FnOk4d (HK P) "compare_op" "op" "u" "v" "notes" "show" (sScope (stm 89)).names (sBody (stm 89)) := fo4d (q := "compare_op") (f := 593) (c := 592) (pm := (vS "vectorcove.compare" 934)) (T := 588) (ns_compare_op P) (by kernel_rfl) (by kernel_rfl) (by kernel_rfl) (fun _ _ _ _ => rfl) (fun _ _ _ _ => by kernel_rfl) (by kernel_rfl)
theorem ns_and_items (P : Params) : nsIn (HK P) mainGlobals (Str.ofString "and_items") = some (some (.ref 600)) := NA P 42 rfl
theorem gv_and_items {cx : Cx} {P : Params} (hK : cx.K = HK P) : GV cx (Str.ofString "and_items", .fn (Str.ofString "and_items")) := gv_fn hK (ns_and_items P)
theorem fo_and_items (P : Params) : FnOk2 (HK P) "and_items" "a" "b" (sScope (stm 91)).names (sBody (stm 91)) := fo2 (q := "and_items") (f := 600) (c := 599) (dV := .none) (pm := (vS "vectorcove.logic" 981)) (ns_and_items P) (by kernel_rfl) (by kernel_rfl) (fun _ _ => by kernel_rfl) (by kernel_rfl)
theorem ns_or_items (P : Params) : nsIn (HK P) mainGlobals (Str.ofString "or_items") = some (some (.ref 607)) := NA P 43 rfl
theorem gv_or_items {cx : Cx} {P : Params} (hK : cx.K = HK P) : GV cx (Str.ofString "or_items", .fn (Str.ofString "or_items")) := gv_fn hK (ns_or_items P)
theorem fo_or_items (P : Params) : FnOk2 (HK P) "or_items" "a" "b" (sScope (stm 92)).names (sBody (stm 92)) := fo2 (q := "or_items") (f := 607) (c := 606) (dV := .none) (pm := (vS "vectorcove.logic" 981)) (ns_or_items P) (by kernel_rfl) (by kernel_rfl) (fun _ _ => by kernel_rfl) (by kernel_rfl)
theorem ns_not_item (P : Params) : nsIn (HK P) mainGlobals (Str.ofString "not_item") = some (some (.ref 614)) := NA P 44 rfl
theorem gv_not_item {cx : Cx} {P : Params} (hK : cx.K = HK P) : GV cx (Str.ofString "not_item", .fn (Str.ofString "not_item")) := gv_fn hK (ns_not_item P)
theorem fo_not_item (P : Params) : FnOk1 (HK P) "not_item" "a" (sScope (stm 93)).names (sBody (stm 93)) := fo1 (q := "not_item") (f := 614) (c := 613) (dV := .none) (pm := (vS "vectorcove.logic" 981)) (ns_not_item P) (by kernel_rfl) (by kernel_rfl) (fun _ => by kernel_rfl) (by kernel_rfl)
theorem ns_truth_item (P : Params) : nsIn (HK P) mainGlobals (Str.ofString "truth_item") = some (some (.ref 621)) := NA P 45 rfl
theorem gv_truth_item {cx : Cx} {P : Params} (hK : cx.K = HK P) : GV cx (Str.ofString "truth_item", .fn (Str.ofString "truth_item")) := gv_fn hK (ns_truth_item P)
theorem fo_truth_item (P : Params) : FnOk2 (HK P) "truth_item" "kind" "item" (sScope (stm 94)).names (sBody (stm 94)) := fo2 (q := "truth_item") (f := 621) (c := 620) (dV := .none) (pm := (vS "vectorcove.logic" 981)) (ns_truth_item P) (by kernel_rfl) (by kernel_rfl) (fun _ _ => by kernel_rfl) (by kernel_rfl)
theorem ns_truth_items (P : Params) : nsIn (HK P) mainGlobals (Str.ofString "truth_items") = some (some (.ref 626)) := NA P 46 rfl
theorem gv_truth_items {cx : Cx} {P : Params} (hK : cx.K = HK P) : GV cx (Str.ofString "truth_items", .fn (Str.ofString "truth_items")) := gv_fn hK (ns_truth_items P)
theorem fo_truth_items (P : Params) : FnOk1 (HK P) "truth_items" "v" (sScope (stm 95)).names (sBody (stm 95)) := fo1 (q := "truth_items") (f := 626) (c := 625) (dV := .none) (pm := (vS "vectorcove.logic" 981)) (ns_truth_items P) (by kernel_rfl) (by kernel_rfl) (fun _ => by kernel_rfl) (by kernel_rfl)
theorem ns_logic_operand (P : Params) : nsIn (HK P) mainGlobals (Str.ofString "logic_operand") = some (some (.ref 633)) := NA P 47 rfl
theorem gv_logic_operand {cx : Cx} {P : Params} (hK : cx.K = HK P) : GV cx (Str.ofString "logic_operand", .fn (Str.ofString "logic_operand")) := gv_fn hK (ns_logic_operand P)
theorem fo_logic_operand (P : Params) : FnOk1 (HK P) "logic_operand" "v" (sScope (stm 96)).names (sBody (stm 96)) := fo1 (q := "logic_operand") (f := 633) (c := 632) (dV := .none) (pm := (vS "vectorcove.logic" 981)) (ns_logic_operand P) (by kernel_rfl) (by kernel_rfl) (fun _ => by kernel_rfl) (by kernel_rfl)
theorem ns_logic_pairs (P : Params) : nsIn (HK P) mainGlobals (Str.ofString "logic_pairs") = some (some (.ref 638)) := NA P 48 rfl
theorem gv_logic_pairs {cx : Cx} {P : Params} (hK : cx.K = HK P) : GV cx (Str.ofString "logic_pairs", .fn (Str.ofString "logic_pairs")) := gv_fn hK (ns_logic_pairs P)
theorem fo_logic_pairs (P : Params) : FnOk4 (HK P) "logic_pairs" "u" "v" "notes" "item_op" (sScope (stm 97)).names (sBody (stm 97)) := fo4 (q := "logic_pairs") (f := 638) (c := 637) (dV := .none) (pm := (vS "vectorcove.logic" 981)) (ns_logic_pairs P) (by kernel_rfl) (by kernel_rfl) (fun _ _ _ _ => by kernel_rfl) (by kernel_rfl)
theorem ns_logic_and (P : Params) : nsIn (HK P) mainGlobals (Str.ofString "logic_and") = some (some (.ref 645)) := NA P 49 rfl
theorem gv_logic_and {cx : Cx} {P : Params} (hK : cx.K = HK P) : GV cx (Str.ofString "logic_and", .fn (Str.ofString "logic_and")) := gv_fn hK (ns_logic_and P)
theorem fo_logic_and (P : Params) : FnOk3 (HK P) "logic_and" "u" "v" "notes" (sScope (stm 98)).names (sBody (stm 98)) := fo3 (q := "logic_and") (f := 645) (c := 644) (dV := .none) (pm := (vS "vectorcove.logic" 981)) (ns_logic_and P) (by kernel_rfl) (by kernel_rfl) (fun _ _ _ => by kernel_rfl) (by kernel_rfl)
theorem ns_logic_or (P : Params) : nsIn (HK P) mainGlobals (Str.ofString "logic_or") = some (some (.ref 652)) := NA P 50 rfl
theorem gv_logic_or {cx : Cx} {P : Params} (hK : cx.K = HK P) : GV cx (Str.ofString "logic_or", .fn (Str.ofString "logic_or")) := gv_fn hK (ns_logic_or P)
theorem fo_logic_or (P : Params) : FnOk3 (HK P) "logic_or" "u" "v" "notes" (sScope (stm 99)).names (sBody (stm 99)) := fo3 (q := "logic_or") (f := 652) (c := 651) (dV := .none) (pm := (vS "vectorcove.logic" 981)) (ns_logic_or P) (by kernel_rfl) (by kernel_rfl) (fun _ _ _ => by kernel_rfl) (by kernel_rfl)
theorem ns_logic_not (P : Params) : nsIn (HK P) mainGlobals (Str.ofString "logic_not") = some (some (.ref 657)) := NA P 51 rfl
theorem gv_logic_not {cx : Cx} {P : Params} (hK : cx.K = HK P) : GV cx (Str.ofString "logic_not", .fn (Str.ofString "logic_not")) := gv_fn hK (ns_logic_not P)
theorem fo_logic_not (P : Params) : FnOk1 (HK P) "logic_not" "v" (sScope (stm 100)).names (sBody (stm 100)) := fo1 (q := "logic_not") (f := 657) (c := 656) (dV := .none) (pm := (vS "vectorcove.logic" 981)) (ns_logic_not P) (by kernel_rfl) (by kernel_rfl) (fun _ => by kernel_rfl) (by kernel_rfl)
theorem ns_arith_names (P : Params) : nsIn (HK P) mainGlobals (Str.ofString "arith_names") = some (some (.ref 664)) := NA P 52 rfl
theorem gv_arith_names {cx : Cx} {P : Params} (hK : cx.K = HK P) : GV cx (Str.ofString "arith_names", .fn (Str.ofString "arith_names")) := gv_fn hK (ns_arith_names P)
theorem fo_arith_names (P : Params) : FnOk0 (HK P) "arith_names"  (sScope (stm 102)).names (sBody (stm 102)) := fo0 (q := "arith_names") (f := 664) (c := 663) (dV := .none) (pm := (vS "vectorcove.fold" 1057)) (ns_arith_names P) (by kernel_rfl) (by kernel_rfl) (by kernel_rfl) (by kernel_rfl)
theorem ns_compare_names (P : Params) : nsIn (HK P) mainGlobals (Str.ofString "compare_names") = some (some (.ref 671)) := NA P 53 rfl
theorem gv_compare_names {cx : Cx} {P : Params} (hK : cx.K = HK P) : GV cx (Str.ofString "compare_names", .fn (Str.ofString "compare_names")) := gv_fn hK (ns_compare_names P)
theorem fo_compare_names (P : Params) : FnOk0 (HK P) "compare_names"  (sScope (stm 103)).names (sBody (stm 103)) := fo0 (q := "compare_names") (f := 671) (c := 670) (dV := .none) (pm := (vS "vectorcove.fold" 1057)) (ns_compare_names P) (by kernel_rfl) (by kernel_rfl) (by kernel_rfl) (by kernel_rfl)
theorem ns_safe_names (P : Params) : nsIn (HK P) mainGlobals (Str.ofString "safe_names") = some (some (.ref 678)) := NA P 54 rfl
theorem gv_safe_names {cx : Cx} {P : Params} (hK : cx.K = HK P) : GV cx (Str.ofString "safe_names", .fn (Str.ofString "safe_names")) := gv_fn hK (ns_safe_names P)
theorem fo_safe_names (P : Params) : FnOk0 (HK P) "safe_names"  (sScope (stm 104)).names (sBody (stm 104)) := fo0 (q := "safe_names") (f := 678) (c := 677) (dV := .none) (pm := (vS "vectorcove.fold" 1057)) (ns_safe_names P) (by kernel_rfl) (by kernel_rfl) (by kernel_rfl) (by kernel_rfl)
theorem ns_is_constant (P : Params) : nsIn (HK P) mainGlobals (Str.ofString "is_constant") = some (some (.ref 685)) := NA P 55 rfl
theorem gv_is_constant {cx : Cx} {P : Params} (hK : cx.K = HK P) : GV cx (Str.ofString "is_constant", .fn (Str.ofString "is_constant")) := gv_fn hK (ns_is_constant P)
theorem fo_is_constant (P : Params) : FnOk1 (HK P) "is_constant" "e" (sScope (stm 105)).names (sBody (stm 105)) := fo1 (q := "is_constant") (f := 685) (c := 684) (dV := .none) (pm := (vS "vectorcove.fold" 1057)) (ns_is_constant P) (by kernel_rfl) (by kernel_rfl) (fun _ => by kernel_rfl) (by kernel_rfl)
theorem ns_plain_call_name (P : Params) : nsIn (HK P) mainGlobals (Str.ofString "plain_call_name") = some (some (.ref 692)) := NA P 56 rfl
theorem gv_plain_call_name {cx : Cx} {P : Params} (hK : cx.K = HK P) : GV cx (Str.ofString "plain_call_name", .fn (Str.ofString "plain_call_name")) := gv_fn hK (ns_plain_call_name P)
theorem fo_plain_call_name (P : Params) : FnOk1 (HK P) "plain_call_name" "e" (sScope (stm 106)).names (sBody (stm 106)) := fo1 (q := "plain_call_name") (f := 692) (c := 691) (dV := .none) (pm := (vS "vectorcove.fold" 1057)) (ns_plain_call_name P) (by kernel_rfl) (by kernel_rfl) (fun _ => by kernel_rfl) (by kernel_rfl)
theorem ns_unary_value (P : Params) : nsIn (HK P) mainGlobals (Str.ofString "unary_value") = some (some (.ref 699)) := NA P 57 rfl
theorem gv_unary_value {cx : Cx} {P : Params} (hK : cx.K = HK P) : GV cx (Str.ofString "unary_value", .fn (Str.ofString "unary_value")) := gv_fn hK (ns_unary_value P)
theorem fo_unary_value (P : Params) : FnOk3 (HK P) "unary_value" "name" "u" "notes" (sScope (stm 107)).names (sBody (stm 107)) := fo3 (q := "unary_value") (f := 699) (c := 698) (dV := .none) (pm := (vS "vectorcove.fold" 1057)) (ns_unary_value P) (by kernel_rfl) (by kernel_rfl) (fun _ _ _ => by kernel_rfl) (by kernel_rfl)
theorem ns_binary_value (P : Params) : nsIn (HK P) mainGlobals (Str.ofString "binary_value") = some (some (.ref 706)) := NA P 58 rfl
theorem gv_binary_value {cx : Cx} {P : Params} (hK : cx.K = HK P) : GV cx (Str.ofString "binary_value", .fn (Str.ofString "binary_value")) := gv_fn hK (ns_binary_value P)
theorem fo_binary_value (P : Params) : FnOk4 (HK P) "binary_value" "name" "u" "v" "notes" (sScope (stm 108)).names (sBody (stm 108)) := fo4 (q := "binary_value") (f := 706) (c := 705) (dV := .none) (pm := (vS "vectorcove.fold" 1057)) (ns_binary_value P) (by kernel_rfl) (by kernel_rfl) (fun _ _ _ _ => by kernel_rfl) (by kernel_rfl)
theorem ns_call_value (P : Params) : nsIn (HK P) mainGlobals (Str.ofString "call_value") = some (some (.ref 713)) := NA P 59 rfl
theorem gv_call_value {cx : Cx} {P : Params} (hK : cx.K = HK P) : GV cx (Str.ofString "call_value", .fn (Str.ofString "call_value")) := gv_fn hK (ns_call_value P)
theorem fo_call_value (P : Params) : FnOk2 (HK P) "call_value" "name" "args" (sScope (stm 109)).names (sBody (stm 109)) := fo2 (q := "call_value") (f := 713) (c := 712) (dV := .none) (pm := (vS "vectorcove.fold" 1057)) (ns_call_value P) (by kernel_rfl) (by kernel_rfl) (fun _ _ => by kernel_rfl) (by kernel_rfl)
theorem ns_fold (P : Params) : nsIn (HK P) mainGlobals (Str.ofString "fold") = some (some (.ref 720)) := NA P 60 rfl
theorem gv_fold {cx : Cx} {P : Params} (hK : cx.K = HK P) : GV cx (Str.ofString "fold", .fn (Str.ofString "fold")) := gv_fn hK (ns_fold P)
theorem fo_fold (P : Params) : FnOk2 (HK P) "fold" "e" "safe" (sScope (stm 110)).names (sBody (stm 110)) := fo2 (q := "fold") (f := 720) (c := 719) (dV := .none) (pm := (vS "vectorcove.fold" 1057)) (ns_fold P) (by kernel_rfl) (by kernel_rfl) (fun _ _ => by kernel_rfl) (by kernel_rfl)
theorem ns_fold_uses (P : Params) : nsIn (HK P) mainGlobals (Str.ofString "fold_uses") = some (some (.ref 727)) := NA P 61 rfl
theorem gv_fold_uses {cx : Cx} {P : Params} (hK : cx.K = HK P) : GV cx (Str.ofString "fold_uses", .fn (Str.ofString "fold_uses")) := gv_fn hK (ns_fold_uses P)
theorem fo_fold_uses (P : Params) : FnOk1 (HK P) "fold_uses" "e" (sScope (stm 111)).names (sBody (stm 111)) := fo1 (q := "fold_uses") (f := 727) (c := 726) (dV := .none) (pm := (vS "vectorcove.fold" 1057)) (ns_fold_uses P) (by kernel_rfl) (by kernel_rfl) (fun _ => by kernel_rfl) (by kernel_rfl)
theorem ns_law_pool (P : Params) : nsIn (HK P) mainGlobals (Str.ofString "_law_pool") = some (some (.ref 734)) := NA P 62 rfl
theorem gv_law_pool {cx : Cx} {P : Params} (hK : cx.K = HK P) : GV cx (Str.ofString "_law_pool", .fn (Str.ofString "_law_pool")) := gv_fn hK (ns_law_pool P)
theorem fo_law_pool (P : Params) : FnOk1 (HK P) "_law_pool" "script" (sScope (stm 113)).names (sBody (stm 113)) := fo1 (q := "_law_pool") (f := 734) (c := 733) (dV := .none) (pm := (vS "law_nz0521_01" 1145)) (ns_law_pool P) (by kernel_rfl) (by kernel_rfl) (fun _ => by kernel_rfl) (by kernel_rfl)
theorem ns_law_pick (P : Params) : nsIn (HK P) mainGlobals (Str.ofString "_law_pick") = some (some (.ref 741)) := NA P 63 rfl
theorem gv_law_pick {cx : Cx} {P : Params} (hK : cx.K = HK P) : GV cx (Str.ofString "_law_pick", .fn (Str.ofString "_law_pick")) := gv_fn hK (ns_law_pick P)
theorem fo_law_pick (P : Params) : FnOk2 (HK P) "_law_pick" "pool" "bound" (sScope (stm 114)).names (sBody (stm 114)) := fo2 (q := "_law_pick") (f := 741) (c := 740) (dV := .none) (pm := (vS "law_nz0521_01" 1145)) (ns_law_pick P) (by kernel_rfl) (by kernel_rfl) (fun _ _ => by kernel_rfl) (by kernel_rfl)
theorem ns_law_reduced (P : Params) : nsIn (HK P) mainGlobals (Str.ofString "_law_reduced") = some (some (.ref 748)) := NA P 64 rfl
theorem gv_law_reduced {cx : Cx} {P : Params} (hK : cx.K = HK P) : GV cx (Str.ofString "_law_reduced", .fn (Str.ofString "_law_reduced")) := gv_fn hK (ns_law_reduced P)
theorem fo_law_reduced (P : Params) : FnOk2 (HK P) "_law_reduced" "n" "d" (sScope (stm 115)).names (sBody (stm 115)) := fo2 (q := "_law_reduced") (f := 748) (c := 747) (dV := .none) (pm := (vS "law_nz0521_01" 1145)) (ns_law_reduced P) (by kernel_rfl) (by kernel_rfl) (fun _ _ => by kernel_rfl) (by kernel_rfl)
theorem ns_law_tree (P : Params) : nsIn (HK P) mainGlobals (Str.ofString "_law_tree") = some (some (.ref 753)) := NA P 65 rfl
theorem gv_law_tree {cx : Cx} {P : Params} (hK : cx.K = HK P) : GV cx (Str.ofString "_law_tree", .fn (Str.ofString "_law_tree")) := gv_fn hK (ns_law_tree P)
theorem fo_law_tree (P : Params) : FnOk3 (HK P) "_law_tree" "pool" "spare" "deep" (sScope (stm 116)).names (sBody (stm 116)) := fo3 (q := "_law_tree") (f := 753) (c := 752) (dV := .none) (pm := (vS "law_nz0521_01" 1145)) (ns_law_tree P) (by kernel_rfl) (by kernel_rfl) (fun _ _ _ => by kernel_rfl) (by kernel_rfl)
theorem ns_law_value (P : Params) : nsIn (HK P) mainGlobals (Str.ofString "_law_value") = some (some (.ref 758)) := NA P 66 rfl
theorem gv_law_value {cx : Cx} {P : Params} (hK : cx.K = HK P) : GV cx (Str.ofString "_law_value", .fn (Str.ofString "_law_value")) := gv_fn hK (ns_law_value P)
theorem fo_law_value (P : Params) : FnOk1 (HK P) "_law_value" "tree" (sScope (stm 117)).names (sBody (stm 117)) := fo1 (q := "_law_value") (f := 758) (c := 757) (dV := .none) (pm := (vS "law_nz0521_01" 1145)) (ns_law_value P) (by kernel_rfl) (by kernel_rfl) (fun _ => by kernel_rfl) (by kernel_rfl)
theorem ns_law_pair (P : Params) : nsIn (HK P) mainGlobals (Str.ofString "_law_pair") = some (some (.ref 765)) := NA P 67 rfl
theorem gv_law_pair {cx : Cx} {P : Params} (hK : cx.K = HK P) : GV cx (Str.ofString "_law_pair", .fn (Str.ofString "_law_pair")) := gv_fn hK (ns_law_pair P)
theorem fo_law_pair (P : Params) : FnOk1 (HK P) "_law_pair" "side" (sScope (stm 118)).names (sBody (stm 118)) := fo1 (q := "_law_pair") (f := 765) (c := 764) (dV := .none) (pm := (vS "law_nz0521_01" 1145)) (ns_law_pair P) (by kernel_rfl) (by kernel_rfl) (fun _ => by kernel_rfl) (by kernel_rfl)
theorem ns_law_numbers (P : Params) : nsIn (HK P) mainGlobals (Str.ofString "_law_numbers") = some (some (.ref 772)) := NA P 68 rfl
theorem gv_law_numbers {cx : Cx} {P : Params} (hK : cx.K = HK P) : GV cx (Str.ofString "_law_numbers", .fn (Str.ofString "_law_numbers")) := gv_fn hK (ns_law_numbers P)
theorem fo_law_numbers (P : Params) : FnOk3 (HK P) "_law_numbers" "name" "one" "two" (sScope (stm 119)).names (sBody (stm 119)) := fo3 (q := "_law_numbers") (f := 772) (c := 771) (dV := .none) (pm := (vS "law_nz0521_01" 1145)) (ns_law_numbers P) (by kernel_rfl) (by kernel_rfl) (fun _ _ _ => by kernel_rfl) (by kernel_rfl)
theorem ns_law_reckoned (P : Params) : nsIn (HK P) mainGlobals (Str.ofString "_law_reckoned") = some (some (.ref 777)) := NA P 69 rfl
theorem gv_law_reckoned {cx : Cx} {P : Params} (hK : cx.K = HK P) : GV cx (Str.ofString "_law_reckoned", .fn (Str.ofString "_law_reckoned")) := gv_fn hK (ns_law_reckoned P)
theorem fo_law_reckoned (P : Params) : FnOk1 (HK P) "_law_reckoned" "tree" (sScope (stm 120)).names (sBody (stm 120)) := fo1 (q := "_law_reckoned") (f := 777) (c := 776) (dV := .none) (pm := (vS "law_nz0521_01" 1145)) (ns_law_reckoned P) (by kernel_rfl) (by kernel_rfl) (fun _ => by kernel_rfl) (by kernel_rfl)
theorem ns_law_uses (P : Params) : nsIn (HK P) mainGlobals (Str.ofString "_law_uses") = some (some (.ref 784)) := NA P 70 rfl
theorem gv_law_uses {cx : Cx} {P : Params} (hK : cx.K = HK P) : GV cx (Str.ofString "_law_uses", .fn (Str.ofString "_law_uses")) := gv_fn hK (ns_law_uses P)
theorem fo_law_uses (P : Params) : FnOk2 (HK P) "_law_uses" "tree" "names" (sScope (stm 121)).names (sBody (stm 121)) := fo2 (q := "_law_uses") (f := 784) (c := 783) (dV := .none) (pm := (vS "law_nz0521_01" 1145)) (ns_law_uses P) (by kernel_rfl) (by kernel_rfl) (fun _ _ => by kernel_rfl) (by kernel_rfl)
theorem ns_law (P : Params) : nsIn (HK P) mainGlobals (Str.ofString "law") = some (some (.ref 789)) := NA P 71 rfl
theorem gv_law {cx : Cx} {P : Params} (hK : cx.K = HK P) : GV cx (Str.ofString "law", .fn (Str.ofString "law")) := gv_fn hK (ns_law P)
theorem fo_law (P : Params) : FnOk1 (HK P) "law" "script" (sScope (stm 122)).names (sBody (stm 122)) := fo1 (q := "law") (f := 789) (c := 788) (dV := .none) (pm := (vS "law_nz0521_01" 1145)) (ns_law P) (by kernel_rfl) (by kernel_rfl) (fun _ => by kernel_rfl) (by kernel_rfl)
theorem ns_get_attr (P : Params) : nsIn (HK P) mainGlobals (Str.ofString "get_attr") = some (some (.ref 28)) := NA P 72 rfl
theorem gv_get_attr {cx : Cx} {P : Params} (hK : cx.K = HK P) : GV cx (Str.ofString "get_attr", .fn (Str.ofString "get_attr")) := gv_fn hK (ns_get_attr P)
theorem fo_get_attr (P : Params) : FnOk2 (HK P) "get_attr" "v" "name" (sScope (stm 2)).names (sBody (stm 2)) := fo2 (q := "get_attr") (f := 28) (c := 27) (dV := .none) (pm := (vS "vectorcove.attrs" 194)) (ns_get_attr P) (by kernel_rfl) (by kernel_rfl) (fun _ _ => by kernel_rfl) (by kernel_rfl)
theorem ns_dim_of (P : Params) : nsIn (HK P) mainGlobals (Str.ofString "dim_of") = some (some (.ref 35)) := NA P 73 rfl
theorem gv_dim_of {cx : Cx} {P : Params} (hK : cx.K = HK P) : GV cx (Str.ofString "dim_of", .fn (Str.ofString "dim_of")) := gv_fn hK (ns_dim_of P)
theorem fo_dim_of (P : Params) : FnOk1 (HK P) "dim_of" "v" (sScope (stm 3)).names (sBody (stm 3)) := fo1 (q := "dim_of") (f := 35) (c := 34) (dV := .none) (pm := (vS "vectorcove.attrs" 194)) (ns_dim_of P) (by kernel_rfl) (by kernel_rfl) (fun _ => by kernel_rfl) (by kernel_rfl)
theorem ns_len_ (P : Params) : nsIn (HK P) mainGlobals (Str.ofString "len") = some none := NA P 74 rfl
theorem gvb_len {cx : Cx} {P : Params} (hK : cx.K = HK P) : GV cx (Str.ofString "len", .cv (.builtin "len")) := gv_builtin hK (ns_len_ P) (by boot_by_name) (by decide)
theorem ns_abs_ (P : Params) : nsIn (HK P) mainGlobals (Str.ofString "abs") = some none := NA P 75 rfl
theorem gvb_abs {cx : Cx} {P : Params} (hK : cx.K = HK P) : GV cx (Str.ofString "abs", .cv (.builtin "abs")) := gv_builtin hK (ns_abs_ P) (by boot_by_name) (by decide)
theorem ns_max_ (P : Params) : nsIn (HK P) mainGlobals (Str.ofString "max") = some none := NA P 76 rfl
theorem gvb_max {cx : Cx} {P : Params} (hK : cx.K = HK P) : GV cx (Str.ofString "max", .cv (.builtin "max")) := gv_builtin hK (ns_max_ P) (by boot_by_name) (by decide)
theorem ns_min_ (P : Params) : nsIn (HK P) mainGlobals (Str.ofString "min") = some none := NA P 77 rfl
theorem gvb_min {cx : Cx} {P : Params} (hK : cx.K = HK P) : GV cx (Str.ofString "min", .cv (.builtin "min")) := gv_builtin hK (ns_min_ P) (by boot_by_name) (by decide)
theorem ns_isinstance_ (P : Params) : nsIn (HK P) mainGlobals (Str.ofString "isinstance") = some none := NA P 78 rfl
theorem gvb_isinstance {cx : Cx} {P : Params} (hK : cx.K = HK P) : GV cx (Str.ofString "isinstance", .cv (.builtin "isinstance")) := gv_builtin hK (ns_isinstance_ P) (by boot_by_name) (by decide)
theorem ns_int_ (P : Params) : nsIn (HK P) mainGlobals (Str.ofString "int") = some none := NA P 79 rfl
theorem gvb_int {cx : Cx} {P : Params} (hK : cx.K = HK P) : GV cx (Str.ofString "int", .cv (.type "int")) := gv_builtin hK (ns_int_ P) (by boot_by_name) (by decide)
theorem ns_range_ (P : Params) : nsIn (HK P) mainGlobals (Str.ofString "range") = some none := NA P 80 rfl
theorem gvb_range {cx : Cx} {P : Params} (hK : cx.K = HK P) : GV cx (Str.ofString "range", .cv (.type "range")) := gv_builtin hK (ns_range_ P) (by boot_by_name) (by decide)
theorem ns_reversed_ (P : Params) : nsIn (HK P) mainGlobals (Str.ofString "reversed") = some none := NA P 81 rfl
theorem gvb_reversed {cx : Cx} {P : Params} (hK : cx.K = HK P) : GV cx (Str.ofString "reversed", .cv (.type "reversed")) := gv_builtin hK (ns_reversed_ P) (by boot_by_name) (by decide)
theorem ns_tuple_ (P : Params) : nsIn (HK P) mainGlobals (Str.ofString "tuple") = some none := NA P 82 rfl
theorem gvb_tuple {cx : Cx} {P : Params} (hK : cx.K = HK P) : GV cx (Str.ofString "tuple", .cv (.type "tuple")) := gv_builtin hK (ns_tuple_ P) (by boot_by_name) (by decide)
theorem ns_list_ (P : Params) : nsIn (HK P) mainGlobals (Str.ofString "list") = some none := NA P 83 rfl
theorem gvb_list {cx : Cx} {P : Params} (hK : cx.K = HK P) : GV cx (Str.ofString "list", .cv (.type "list")) := gv_builtin hK (ns_list_ P) (by boot_by_name) (by decide)
theorem ns_dict_ (P : Params) : nsIn (HK P) mainGlobals (Str.ofString "dict") = some none := NA P 84 rfl
theorem gvb_dict {cx : Cx} {P : Params} (hK : cx.K = HK P) : GV cx (Str.ofString "dict", .cv (.type "dict")) := gv_builtin hK (ns_dict_ P) (by boot_by_name) (by decide)
theorem gv_NAN {cx : Cx} {P : Params} (hK : cx.K = HK P) : GV cx (Str.ofString "NAN", P2 0 0) := gv_pair (K0 := HK P) (a := 68) (o := oTup [(vI 0 261), (vI 0 262)] 0) (t := 261) (u := 262) (k := 0) hK (by kernel_rfl) (by kernel_rfl) rfl rfl
theorem gv_INF {cx : Cx} {P : Params} (hK : cx.K = HK P) : GV cx (Str.ofString "INF", P2 1 0) := gv_pair (K0 := HK P) (a := 69) (o := oTup [(vI 1 264), (vI 0 265)] 0) (t := 264) (u := 265) (k := 0) hK (by kernel_rfl) (by kernel_rfl) rfl rfl
theorem gv_ZERO {cx : Cx} {P : Params} (hK : cx.K = HK P) : GV cx (Str.ofString "ZERO", P2 0 1) := gv_pair (K0 := HK P) (a := 70) (o := oTup [(vI 0 267), (vI 1 268)] 0) (t := 267) (u := 268) (k := 0) hK (by kernel_rfl) (by kernel_rfl) rfl rfl
theorem gv_ONE {cx : Cx} {P : Params} (hK : cx.K = HK P) : GV cx (Str.ofString "ONE", P2 1 1) := gv_pair (K0 := HK P) (a := 71) (o := oTup [(vI 1 270), (vI 1 271)] 0) (t := 270) (u := 271) (k := 0) hK (by kernel_rfl) (by kernel_rfl) rfl rfl
theorem gv_MOST_POWER {cx : Cx} {P : Params} (hK : cx.K = HK P) : GV cx (Str.ofString "MOST_POWER", I 4096) := gv_int (K0 := HK P) (t := 273) hK (by kernel_rfl)
theorem gv_MOST_INTEGER {cx : Cx} {P : Params} (hK : cx.K = HK P) : GV cx (Str.ofString "MOST_INTEGER", I 2147483647) := gv_int (K0 := HK P) (t := 606) hK (by kernel_rfl)
theorem ns_Vector (P : Params) : nsIn (HK P) mainGlobals (Str.ofString "Vector") = some (some (.ref 257)) := NA P 85 rfl
theorem gv_Vector {cx : Cx} {P : Params} (hK : cx.K = HK P) : GV cx (Str.ofString "Vector", .fn (Str.ofString "Vector")) := gv_fn hK (ns_Vector P)
theorem ns_Symbol (P : Params) : nsIn (HK P) mainGlobals (Str.ofString "Symbol") = some (some (.ref 278)) := NA P 86 rfl
theorem gv_Symbol {cx : Cx} {P : Params} (hK : cx.K = HK P) : GV cx (Str.ofString "Symbol", .fn (Str.ofString "Symbol")) := gv_fn hK (ns_Symbol P)
theorem ns_Call (P : Params) : nsIn (HK P) mainGlobals (Str.ofString "Call") = some (some (.ref 300)) := NA P 87 rfl
theorem gv_Call {cx : Cx} {P : Params} (hK : cx.K = HK P) : GV cx (Str.ofString "Call", .fn (Str.ofString "Call")) := gv_fn hK (ns_Call P)
theorem ns_Refusal (P : Params) : nsIn (HK P) mainGlobals (Str.ofString "Refusal") = some (some (.ref 65)) := NA P 88 rfl
theorem gv_Refusal {cx : Cx} {P : Params} (hK : cx.K = HK P) : GV cx (Str.ofString "Refusal", .fn (Str.ofString "Refusal")) := gv_fn hK (ns_Refusal P)
end Mine
end
section
open PySem PySem.W PySem.Spec PySem.SeqAt PySem.Calls PyProof.Rows
set_option Elab.async false
set_option maxRecDepth 100000
set_option maxHeartbeats 4000000
set_option compiler.extract_closed false
namespace Mine
local macro_rules | `(tactic| walk_at "side") => `(tactic| first | assumption | omega | decide | exact Sz.mono (by assumption) (by decide) | (with_reducible intro h; cases h; done))
local macro_rules | `(tactic| walk_at "lk") => `(tactic| repeat (first | with_reducible apply Lk.head | with_reducible apply Lk.tail))
local macro_rules | `(tactic| walk_at "lu") => `(tactic| repeat (first | with_reducible apply LU.head | with_reducible apply LU.tail))
local macro_rules | `(tactic| walk_at "su") => `(tactic| repeat (first | with_reducible apply SU.head | with_reducible apply SU.tail | with_reducible apply SU.app))
local macro_rules | `(tactic| walk_at "und") => `(tactic| first | apply nu_d | apply nu_lref | apply nu_vec | assumption | apply nu_sym | apply nu_call | apply nu_tup | apply nu_lst | apply nu_dct | apply nu_fn)
local macro_rules | `(tactic| walk_at "nfn") => `(tactic| first | apply nf_d | apply nf_vec | apply nf_lref | apply nf_call | apply nf_sym)
local macro_rules | `(tactic| walk_at "mem") => `(tactic| repeat (first | with_reducible exact List.mem_cons_self | with_reducible apply List.mem_cons_of_mem | with_reducible apply List.mem_append_right))
local macro_rules | `(tactic| walk_at "rem") => `(tactic| repeat (first | with_reducible apply Rem.head | with_reducible apply Rem.tail))
local macro_rules | `(tactic| walk_at "len") => `(tactic| first | assumption | exact Nat.le_of_ble_eq_true rfl | omega | (simp only [List.length_append, List.length_cons, List.length_nil, List.length_map, List.length_reverse]; omega))
local macro_rules | `(tactic| walk_at "lay") => `(tactic| first | assumption | rfl | decide +kernel | exact Nat.le_of_ble_eq_true rfl)
local macro_rules | `(tactic| walk_at "s0") => `(tactic| (refine' ev_call_g ?l (fun _ => rfl) (fun _ => rfl) ?_; (case l => walk_at "lk")))
local macro_rules | `(tactic| walk_at "s1") => `(tactic| (refine' es_l1 ?l ?u ?_; (case l => walk_at "lk"); (case u => walk_at "und")))
local macro_rules | `(tactic| walk_at "s2") => `(tactic| (refine' ev_sub_li ?l ?u ?_; (case l => walk_at "lk"); (case u => walk_at "und")))
local macro_rules | `(tactic| walk_at "s3") => `(tactic| (refine' es_l ?l ?u ?_; (case l => walk_at "lk"); (case u => walk_at "und")))
local macro_rules | `(tactic| walk_at "s4") => `(tactic| (refine' cmp_in (T := "") ?h1 ?h2 ?hd ?ha (.inl rfl) ?_; (case ha => first | exact .inl rfl | exact .inr rfl); (case h1 => walk_at "lay"); (case h2 => walk_at "lay"); (case hd => walk_at "lay")))
local macro_rules | `(tactic| walk_at "s5") => `(tactic| (refine' ev_local ?h ?hu ?_; (case h => walk_at "lk"); (case hu => walk_at "und")))
local macro_rules | `(tactic| walk_at "s6") => `(tactic| (refine' st_name ?u ?_; (case u => walk_at "lu")))
local macro_rules | `(tactic| walk_at "s7") => `(tactic| (refine' it_dt ?h ?_; (case h => with_unfolding_all exact rfl)))
local macro_rules | `(tactic| walk_at "s8") => `(tactic| (refine' ev_attr_l ?l ?u ?_; (case l => walk_at "lk"); (case u => walk_at "und")))
local macro_rules | `(tactic| walk_at "s9") => `(tactic| (refine ways_f (by decide +kernel) ?_))
local macro_rules | `(tactic| walk_at "s10") => `(tactic| (refine ⟨_, List.Sublist.refl _, ?_⟩))
local macro_rules | `(tactic| walk_at "s11") => `(tactic| (refine' ev_bin_ll ?l ?u ?l2 ?u2 ?_; (case l => walk_at "lk"); (case u => walk_at "und"); (case l2 => walk_at "lk"); (case u2 => walk_at "und")))
local macro_rules | `(tactic| walk_at "s12") => `(tactic| (refine' pu_local ?lk ?u ?_; (case lk => walk_at "lk"); (case u => walk_at "und")))
local macro_rules | `(tactic| walk_at "s13") => `(tactic| (refine' ts_cmp_l ?l ?u rfl ?_; (case l => walk_at "lk"); (case u => walk_at "und")))
local macro_rules | `(tactic| walk_at "s14") => `(tactic| (refine ways_t (by decide +kernel) ?_))
local macro_rules | `(tactic| walk_at "s15") => `(tactic| (refine' ts_is_l ?l ?u ?hf ?_; (case l => walk_at "lk"); (case u => walk_at "und"); (case hf => walk_at "nfn")))
local macro_rules | `(tactic| walk_at "s16") => `(tactic| (refine' xs_set (fun _ => rfl) ?_))
local macro_rules | `(tactic| walk_at "s17") => `(tactic| (refine ⟨by exact Nat.le_of_ble_eq_true rfl, ?_⟩))
local macro_rules | `(tactic| walk_at "s18") => `(tactic| (refine ⟨by decide +kernel, ?_⟩))
local macro_rules | `(tactic| walk_at "s19") => `(tactic| (refine es_1 (fun _ => rfl) ?_))
local macro_rules | `(tactic| walk_at "s20") => `(tactic| (refine' ts_eqs_l ?l ?_; (case l => walk_at "lk")))
local macro_rules | `(tactic| walk_at "s21") => `(tactic| (refine bin_mul (by first | assumption | exact .of_left (by decide) | exact .of_right (by decide)) ?_))
local macro_rules | `(tactic| walk_at "s22") => `(tactic| (refine' xs_ret_l ?l ?u ?_; (case l => walk_at "lk"); (case u => walk_at "und")))
local macro_rules | `(tactic| walk_at "s23") => `(tactic| (refine' it_dl ?h ?_; (case h => with_unfolding_all exact rfl)))
local macro_rules | `(tactic| walk_at "s24") => `(tactic| (refine ways_f (by with_reducible assumption) ?_))
local macro_rules | `(tactic| walk_at "s26") => `(tactic| (refine ⟨_, _, rfl, rfl, (by intro h; first | assumption | (cases h; done)), ?_⟩))
variable {cx : Cx} {P : Params} {r : Nat} {KE : Sig → Prop} {σ : Sig} {K : AV → Sig → Prop}
theorem fmod_nat (a b : Nat) : (a : Int).fmod b = ((a % b : Nat) : Int) := by rw [Int.fmod_eq_emod_of_nonneg _ (by omega)]; rfl
theorem c_gcd (hK : cx.K = HK P) {a b : Nat} (k : K (I (Nat.gcd a b : Nat)) σ) : CalTo cx (r + 1) KE (.fn "gcd") [I a, I b] σ K := by
  refine go2 "a" "b" [] [] rfl hK (fo_gcd _) (by decide +kernel) (GS.nil) ?_
  conv => arg 6; whnf
  with_reducible
   refine xs_cons ?_
  with_reducible
   refine ex_while ?_
  induction b using Nat.strongRecOn generalizing a with
  | ind b ih =>
    refine wl_turn ?_
    with_reducible
     refine' ts_cmp_li ?l_1 ?u_1 rfl ?_; (case l_1 => walk_at "lk"); (case u_1 => walk_at "und")
     refine cmp_gt_int ?_
    refine ⟨fun h => ?_, fun h => ?_⟩
    · have hb : 0 < b := by simpa using h
      with_reducible
       refine xs_cons ?_
      refine' ex_swap2 ?h1_2 ?h2_2 ?h3_2 ?h4_2 ?h5_2 ?h6_2 ?h7_2 ?_; (case h1_2 => decide); (case h2_2 => decide); (case h3_2 => decide); (case h4_2 => decide); (case h5_2 => rfl); (case h6_2 => rfl); (case h7_2 => rfl)
      with_reducible
       refine ev_tuple_a ?_
       walk_at "s3"
       walk_at "s19"
       walk_at "s11"
       refine bin_mod (by first | assumption | omega | exact of_decide_eq_true rfl) ?_
       walk_at "s17"
       refine ⟨_, TupOf.d rfl, ?_⟩
       refine ⟨_, _, .dt rfl, ?_⟩
       walk_at "s6"
       walk_at "s6"
       refine xs_nil ?_
      rw [fmod_nat]
      exact ih _ (Nat.mod_lt _ hb) (by rw [Nat.gcd_comm, Nat.gcd_rec] at k; rwa [Nat.gcd_comm])
    · have hb : b = 0 := by simpa using h
      with_reducible
       walk_at "s22"
       walk_at "s10"
      simpa [hb, outV] using k
noncomputable def red (n d : Int) : Int × Int := ((if d < 0 then -n else n).fdiv (Nat.gcd n.natAbs d.natAbs : Nat), (d.natAbs : Int).fdiv (Nat.gcd n.natAbs d.natAbs : Nat))
theorem log_gcd {n d : Nat} (hd : d ≠ 0) (hs : d.log2 < 9000) : (Nat.gcd n d).log2 < 9000 := Nat.lt_of_le_of_lt (log_mono (Nat.le_of_dvd (Nat.pos_of_ne_zero hd) (Nat.gcd_dvd_right n d))) hs
theorem c_make (hK : cx.K = HK P) {n d : Int} (hd : d ≠ 0) (hs : d.natAbs.log2 < 9000) (k : K (P2 (red n d).1 (red n d).2) σ) : CalTo cx (r + 2) KE (.fn "make") [I n, I d] σ K := by
  have hg : (Nat.gcd n.natAbs d.natAbs : Int) ≠ 0 := by
    have := Nat.gcd_pos_of_pos_right n.natAbs (Int.natAbs_pos.mpr hd); omega
  have hl : ((Nat.gcd n.natAbs d.natAbs : Nat) : Int).natAbs.log2 < 9000 := by rw [Int.natAbs_natCast]; exact log_gcd (by omega) hs
  refine go2 "n" "d" [("common", .undef)] [("NAN", P2 0 0), ("gcd", .fn "gcd"), ("abs", .cv (.builtin "abs"))] rfl hK (fo_make _) (by decide +kernel) (GS.cons (gv_NAN hK) (GS.cons (gv_gcd hK) (GS.cons (gvb_abs hK) GS.nil))) ?_
  conv => arg 6; whnf
  with_reducible
   refine' xs_if0 ?_
   refine' ts_eqi_l ?l_1 ?_; (case l_1 => walk_at "lk")
   refine ways_f (by simp; first | done | omega) ?_
   refine' xs_if0 ?_
   refine' ts_cmp_li ?l_2 ?u_2 rfl ?_; (case l_2 => walk_at "lk"); (case u_2 => walk_at "und")
   refine cmp_lt_int ?_
  refine ⟨fun h => ?_, fun h => ?_⟩
  · have h : d < 0 := of_decide_eq_true h
    have e1 : (0 : Int) - n = -n := by omega
    have e2 : (0 : Int) - d = (d.natAbs : Nat) := by omega
    with_reducible
     walk_at "s16"
     refine ev_bin ?_
     refine ev_cint ?_
     walk_at "s5"
     refine bin_sub ?_
     walk_at "s6"
     walk_at "s16"
     refine ev_bin ?_
     refine ev_cint ?_
     walk_at "s5"
     refine bin_sub ?_
     walk_at "s6"
     refine xs_nil ?_
     walk_at "s16"
     walk_at "s0"
     refine es_cons (fun _ => rfl) ?_
     walk_at "s0"
     walk_at "s1"
     refine bl_abs ?_
     walk_at "s1"
    rw [e1, e2, Int.natAbs_neg]
    with_reducible
     apply c_gcd; iterate 1 walk_at "side"
     walk_at "s6"
     refine' xs_ret ?_
     refine ev_tuple_a ?_
     refine es_cons (fun _ => rfl) ?_
     walk_at "s11"
     refine bin_div (by first | assumption | decide | omega) (by first | assumption | decide | omega) ?_
     walk_at "s19"
     walk_at "s11"
     refine bin_div (by first | assumption | decide | omega) (by first | assumption | decide | omega) ?_
     walk_at "s17"
     refine ⟨_, TupOf.d rfl, ?_⟩
     walk_at "s10"
    simpa [outV, red, h] using k
  · have h : ¬ d < 0 := of_decide_eq_false h
    have e2 : d = (d.natAbs : Nat) := by omega
    with_reducible
     walk_at "s16"
     walk_at "s0"
     refine es_cons (fun _ => rfl) ?_
     walk_at "s0"
     walk_at "s1"
     refine bl_abs ?_
     walk_at "s1"
    rw [e2]
    try simp only [Int.natAbs_natCast]
    with_reducible
     apply c_gcd; iterate 1 walk_at "side"
     walk_at "s6"
     refine' xs_ret ?_
     refine ev_tuple_a ?_
     refine es_cons (fun _ => rfl) ?_
     walk_at "s11"
     refine bin_div (by first | assumption | decide | omega) (by first | assumption | decide | omega) ?_
     walk_at "s19"
     walk_at "s11"
     refine bin_div (by first | assumption | decide | omega) (by first | assumption | decide | omega) ?_
     walk_at "s17"
     refine ⟨_, TupOf.d rfl, ?_⟩
     walk_at "s10"
    simpa [outV, red, h, ← e2] using k
noncomputable def Sz (b : Nat) (n : Int) : Prop := n.natAbs < 2 ^ b
theorem Sz.mono {a b : Nat} {n : Int} (h : Sz a n) (l : a ≤ b) : Sz b n := Nat.lt_of_lt_of_le h (Nat.pow_le_pow_right (by decide) l)
theorem Sz.mul {a b : Nat} {x y : Int} (h : Sz a x) (k : Sz b y) : Sz (a + b) (x * y) := by
  unfold Sz at *
  rw [Int.natAbs_mul, Nat.pow_add]
  exact Nat.mul_lt_mul'' h k
theorem Sz.add {a : Nat} {x y : Int} (h : Sz a x) (k : Sz a y) : Sz (a + 1) (x + y) := by
  unfold Sz at *
  rw [Nat.pow_succ, Nat.mul_two]
  exact Nat.lt_of_le_of_lt (Int.natAbs_add_le x y) (Nat.add_lt_add h k)
theorem ex_pred {a r : Nat} (h : a + 1 ≤ r) : ∃ r', r = r' + 1 := ⟨r - 1, (Nat.succ_pred_eq_of_pos (Nat.lt_of_lt_of_le (Nat.succ_pos a) h)).symm⟩
theorem Sz.neg {a : Nat} {x : Int} (h : Sz a x) : Sz a (-x) := by unfold Sz at *; rwa [Int.natAbs_neg]
theorem Sz.log {b : Nat} {n : Int} (h : Sz b n) (hb : b ≤ 9000) : n.natAbs.log2 < 9000 := by
  by_cases z : n.natAbs = 0
  · rw [z]; decide
  · exact Nat.lt_of_lt_of_le ((Nat.log2_lt z).mpr h) hb
theorem Sz.bits {b : Nat} {n : Int} (h : Sz b n) : Builtin.Int.intBits n ≤ b := by
  unfold Builtin.Int.intBits
  split
  · exact Nat.zero_le _
  · rename_i z
    have z' : n.natAbs ≠ 0 := fun e => z (by have := Int.natAbs_eq_zero.mp e; simp [this])
    exact (Nat.log2_lt z').mpr h
theorem Sz.ok {b : Nat} {x y : Int} (h : Sz b x) (k : Sz b y) (hb : b ≤ 60000 := by decide) : IntMulOk x y := by
  have h1 := h.bits
  have h2 := k.bits
  unfold IntMulOk
  have : Builtin.Int.intTooBig (Builtin.Int.intBits x + Builtin.Int.intBits y) = false := by
    unfold Builtin.Int.intTooBig
    refine decide_eq_false ?_
    have : (120000 : Int) < bitsLine := by decide
    omega
  rw [this]; simp
theorem c_from_int (hK : cx.K = HK P) {n : Int} (k : K (P2 n 1) σ) : CalTo cx (r + 1) KE (.fn "from_int") [I n] σ K := by
  refine go1 "n" [] [] rfl hK (fo_from_int _) (by decide +kernel) (GS.nil) ?_
  conv => arg 6; whnf
  with_reducible
   refine' xs_if0 ?_
   walk_at "s15"
   refine ways_f rfl ?_
   refine' xs_ret ?_
   refine ev_tuple_a ?_
   walk_at "s3"
   refine' es_i1 ?_
   walk_at "s17"
   refine ⟨_, TupOf.d rfl, ?_⟩
   walk_at "s10"
  exact k
theorem beq_f {a b : Int} (h : a ≠ b) : (a == b) = false := beq_eq_false_iff_ne.mpr h
theorem c_is_na (hK : cx.K = HK P) {n d : Int} (hd : d ≠ 0) (k : K (B false) σ) : CalTo cx (r + 1) KE (.fn "is_na") [P2 n d] σ K := by
  refine go1 "x" [] [] rfl hK (fo_is_na _) (by decide +kernel) (GS.nil) ?_
  conv => arg 6; whnf
  with_reducible
   refine' xs_ret ?_
   refine ev_bool_or ?_
   refine ev_cmp rfl ?_
   walk_at "s5"
   refine ev_cnone ?_
   refine' cmp_is_none ?hf_1 ?_; (case hf_1 => walk_at "nfn")
   refine tru_bool ?_
   refine ways_f rfl ?_
   refine ev_bool_one ?_
   refine ev_bool_and ?_
   refine ev_cmp rfl ?_
   walk_at "s2"
   walk_at "s7"
   refine ev_cint ?_
   refine cmp_eq_int ?_
   refine tru_bool ?_
  refine ⟨fun h => ?_, fun h => ?_⟩
  · with_reducible
     refine ev_bool_one ?_
     refine ev_cmp rfl ?_
     walk_at "s2"
     walk_at "s7"
     refine ev_cint ?_
     refine cmp_eq_int ?_
     walk_at "s10"
    rw [beq_f hd]; exact k
  · with_reducible
     walk_at "s10"
    rw [h]; exact k
theorem c_is_finite (hK : cx.K = HK P) {n d : Int} (hd : 0 < d) (k : K (B true) σ) : CalTo cx (r + 1) KE (.fn "is_finite") [P2 n d] σ K := by
  refine go1 "x" [] [] rfl hK (fo_is_finite _) (by decide +kernel) (GS.nil) ?_
  conv => arg 6; whnf
  with_reducible
   refine' xs_ret ?_
   refine ev_bool_and ?_
   refine ev_cmp rfl ?_
   walk_at "s5"
   refine ev_cnone ?_
   refine' cmp_isnot_none ?hf_1 ?_; (case hf_1 => walk_at "nfn")
   refine tru_bool ?_
   refine ways_t rfl ?_
   refine ev_bool_one ?_
   refine ev_cmp rfl ?_
   walk_at "s2"
   walk_at "s7"
   refine ev_cint ?_
   refine cmp_gt_int ?_
   walk_at "s10"
  rw [decide_eq_true hd]; exact k
theorem c_neg (hK : cx.K = HK P) {n d : Int} (k : K (P2 (-n) d) σ) : CalTo cx (r + 1) KE (.fn "neg") [P2 n d] σ K := by
  refine go1 "x" [] [] rfl hK (fo_neg _) (by decide +kernel) (GS.nil) ?_
  conv => arg 6; whnf
  with_reducible
   refine' xs_if0 ?_
   walk_at "s15"
   refine ways_f rfl ?_
   refine' xs_ret ?_
   refine ev_tuple_a ?_
   refine es_cons (fun _ => rfl) ?_
   refine ev_bin ?_
   refine ev_cint ?_
   walk_at "s2"
   walk_at "s7"
   refine bin_sub ?_
   walk_at "s19"
   walk_at "s2"
   walk_at "s7"
   walk_at "s17"
   refine ⟨_, TupOf.d rfl, ?_⟩
   walk_at "s10"
  rw [Int.zero_sub]; exact k
theorem c_add (hK : cx.K = HK P) {n d m e : Int} (hd : 0 < d) (he : 0 < e) (s1 : Sz 9000 n) (s2 : Sz 4400 d) (s3 : Sz 9000 m) (s4 : Sz 4400 e) (k : K (P2 (red (n * e + m * d) (d * e)).1 (red (n * e + m * d) (d * e)).2) σ) :
    CalTo cx (r + 3) KE (.fn "add") [P2 n d, P2 m e] σ K := by
  have o1 : IntMulOk n e := s1.ok (s4.mono (by decide))
  have o2 : IntMulOk m d := s3.ok (s2.mono (by decide))
  have o3 : IntMulOk d e := s2.ok s4
  have hde : d * e ≠ 0 := Int.mul_ne_zero (by omega) (by omega)
  have hlg : (d * e).natAbs.log2 < 9000 := (s2.mul s4).log (by decide)
  refine go2 "x" "y" [] [("is_na", .fn "is_na"), ("NAN", P2 0 0), ("make", .fn "make")] rfl hK (fo_add _) (by decide +kernel) (GS.cons (gv_is_na hK) (GS.cons (gv_NAN hK) (GS.cons (gv_make hK) GS.nil))) ?_
  conv => arg 6; whnf
  with_reducible
   refine' xs_if0 ?_
   refine ts_bool ?_
   refine bs_or ?_
   refine ts_value (fun _ _ => rfl) ?_
   walk_at "s0"
   walk_at "s1"
   apply c_is_na; iterate 2 walk_at "side"
   refine tru_bool ?_
   walk_at "s9"
   refine bs_or ?_
   refine ts_value (fun _ _ => rfl) ?_
   walk_at "s0"
   walk_at "s1"
   apply c_is_na; iterate 2 walk_at "side"
   refine tru_bool ?_
   walk_at "s9"
   refine bs_or_nil ?_
   walk_at "s9"
   refine' xs_if0 ?_
   refine ts_bool ?_
   refine bs_and ?_
   refine' ts_cmp_i rfl ?_
   walk_at "s2"
   walk_at "s7"
   refine cmp_eq_int ?_
   refine ways_f (by simp; first | done | omega) ?_
   walk_at "s9"
   refine' xs_if0 ?_
   refine' ts_cmp_i rfl ?_
   walk_at "s2"
   walk_at "s7"
   refine cmp_eq_int ?_
   refine ways_f (by simp; first | done | omega) ?_
   refine' xs_if0 ?_
   refine' ts_cmp_i rfl ?_
   walk_at "s2"
   walk_at "s7"
   refine cmp_eq_int ?_
   refine ways_f (by simp; first | done | omega) ?_
   refine' xs_ret ?_
   walk_at "s0"
   refine es_cons (fun _ => rfl) ?_
   refine ev_bin ?_
   refine ev_bin ?_
   walk_at "s2"
   walk_at "s7"
   walk_at "s2"
   walk_at "s7"
   walk_at "s21"
   refine ev_bin ?_
   walk_at "s2"
   walk_at "s7"
   walk_at "s2"
   walk_at "s7"
   walk_at "s21"
   refine bin_add ?_
   walk_at "s19"
   refine ev_bin ?_
   walk_at "s2"
   walk_at "s7"
   walk_at "s2"
   walk_at "s7"
   walk_at "s21"
   apply c_make; iterate 3 walk_at "side"
   walk_at "s10"
  exact k
theorem c_sub (hK : cx.K = HK P) {n d m e : Int} (hd : 0 < d) (he : 0 < e) (s1 : Sz 9000 n) (s2 : Sz 4400 d) (s3 : Sz 9000 m) (s4 : Sz 4400 e) (k : K (P2 (red (n * e + -m * d) (d * e)).1 (red (n * e + -m * d) (d * e)).2) σ) :
    CalTo cx (r + 4) KE (.fn "sub") [P2 n d, P2 m e] σ K := by
  have s3' := s3.neg
  refine go2 "x" "y" [] [("add", .fn "add"), ("neg", .fn "neg")] rfl hK (fo_sub _) (by decide +kernel) (GS.cons (gv_add hK) (GS.cons (gv_neg hK) GS.nil)) ?_
  conv => arg 6; whnf
  with_reducible
   refine' xs_ret ?_
   walk_at "s0"
   walk_at "s3"
   walk_at "s19"
   walk_at "s0"
   walk_at "s1"
   apply c_neg; iterate 1 walk_at "side"
   apply c_add; iterate 7 walk_at "side"
   walk_at "s10"
  exact k
theorem c_mul (hK : cx.K = HK P) {n d m e : Int} (hd : 0 < d) (he : 0 < e) (s1 : Sz 9000 n) (s2 : Sz 4400 d) (s3 : Sz 9000 m) (s4 : Sz 4400 e) (k : K (P2 (red (n * m) (d * e)).1 (red (n * m) (d * e)).2) σ) :
    CalTo cx (r + 3) KE (.fn "mul") [P2 n d, P2 m e] σ K := by
  have o1 : IntMulOk n m := s1.ok s3
  have o3 : IntMulOk d e := s2.ok s4
  have hde : d * e ≠ 0 := Int.mul_ne_zero (by omega) (by omega)
  have hlg : (d * e).natAbs.log2 < 9000 := (s2.mul s4).log (by decide)
  refine go2 "x" "y" [] [("is_na", .fn "is_na"), ("make", .fn "make")] rfl hK (fo_mul _) (by decide +kernel) (GS.cons (gv_is_na hK) (GS.cons (gv_make hK) GS.nil)) ?_
  conv => arg 6; whnf
  with_reducible
   refine' xs_if0 ?_
   refine ts_bool ?_
   refine bs_or ?_
   refine ts_value (fun _ _ => rfl) ?_
   walk_at "s0"
   walk_at "s1"
   apply c_is_na; iterate 2 walk_at "side"
   refine tru_bool ?_
   walk_at "s9"
   refine bs_or ?_
   refine ts_value (fun _ _ => rfl) ?_
   walk_at "s0"
   walk_at "s1"
   apply c_is_na; iterate 2 walk_at "side"
   refine tru_bool ?_
   walk_at "s9"
   refine bs_or_nil ?_
   walk_at "s9"
   refine' xs_ret ?_
   walk_at "s0"
   refine es_cons (fun _ => rfl) ?_
   refine ev_bin ?_
   walk_at "s2"
   walk_at "s7"
   walk_at "s2"
   walk_at "s7"
   walk_at "s21"
   walk_at "s19"
   refine ev_bin ?_
   walk_at "s2"
   walk_at "s7"
   walk_at "s2"
   walk_at "s7"
   walk_at "s21"
   apply c_make; iterate 3 walk_at "side"
   walk_at "s10"
  exact k
theorem c_div (hK : cx.K = HK P) {n d m e : Int} (hd : 0 < d) (he : 0 < e) (hm : m ≠ 0) (s1 : Sz 9000 n) (s2 : Sz 4400 d) (s3 : Sz 4400 m) (s4 : Sz 4400 e) (k : K (P2 (red (n * e) (d * m)).1 (red (n * e) (d * m)).2) σ) :
    CalTo cx (r + 3) KE (.fn "div") [P2 n d, P2 m e] σ K := by
  have o1 : IntMulOk n e := s1.ok (s4.mono (by decide))
  have o3 : IntMulOk d m := s2.ok s3
  have hde : d * m ≠ 0 := Int.mul_ne_zero (by omega) hm
  have hlg : (d * m).natAbs.log2 < 9000 := (s2.mul s3).log (by decide)
  refine go2 "x" "y" [] [("is_na", .fn "is_na"), ("NAN", P2 0 0), ("neg", .fn "neg"), ("make", .fn "make")] rfl hK (fo_div _) (by decide +kernel) (GS.cons (gv_is_na hK) (GS.cons (gv_NAN hK) (GS.cons (gv_neg hK) (GS.cons (gv_make hK) GS.nil)))) ?_
  conv => arg 6; whnf
  with_reducible
   refine' xs_if0 ?_
   refine ts_bool ?_
   refine bs_or ?_
   refine ts_value (fun _ _ => rfl) ?_
   walk_at "s0"
   walk_at "s1"
   apply c_is_na; iterate 2 walk_at "side"
   refine tru_bool ?_
   walk_at "s9"
   refine bs_or ?_
   refine ts_value (fun _ _ => rfl) ?_
   walk_at "s0"
   walk_at "s1"
   apply c_is_na; iterate 2 walk_at "side"
   refine tru_bool ?_
   walk_at "s9"
   refine bs_or_nil ?_
   walk_at "s9"
   refine' xs_if0 ?_
   refine ts_bool ?_
   refine bs_and ?_
   refine' ts_cmp_i rfl ?_
   walk_at "s2"
   walk_at "s7"
   refine cmp_eq_int ?_
   refine ways_f (by simp; first | done | omega) ?_
   walk_at "s9"
   refine' xs_if0 ?_
   refine' ts_cmp_i rfl ?_
   walk_at "s2"
   walk_at "s7"
   refine cmp_eq_int ?_
   refine ways_f (by simp; first | done | omega) ?_
   refine' xs_ret ?_
   walk_at "s0"
   refine es_cons (fun _ => rfl) ?_
   refine ev_bin ?_
   walk_at "s2"
   walk_at "s7"
   walk_at "s2"
   walk_at "s7"
   walk_at "s21"
   walk_at "s19"
   refine ev_bin ?_
   walk_at "s2"
   walk_at "s7"
   walk_at "s2"
   walk_at "s7"
   walk_at "s21"
   apply c_make; iterate 3 walk_at "side"
   walk_at "s10"
  exact k
theorem c_floor (hK : cx.K = HK P) {n d : Int} (hd : 0 < d) (hl : d.natAbs.log2 < 9000) (k : K (P2 (n.fdiv d) 1) σ) : CalTo cx (r + 2) KE (.fn "floor") [P2 n d] σ K := by
  have hd0 : d ≠ 0 := by omega
  refine go1 "x" [] [("is_finite", .fn "is_finite")] rfl hK (fo_floor _) (by decide +kernel) (GS.cons (gv_is_finite hK) GS.nil) ?_
  conv => arg 6; whnf
  with_reducible
   refine' xs_if0 ?_
   refine ts_not ?_
   refine ts_value (fun _ _ => rfl) ?_
   walk_at "s0"
   walk_at "s1"
   apply c_is_finite; iterate 2 walk_at "side"
   refine tru_bool ?_
   walk_at "s9"
   refine' xs_ret ?_
   refine ev_tuple_a ?_
   refine es_cons (fun _ => rfl) ?_
   refine ev_bin ?_
   walk_at "s2"
   walk_at "s7"
   walk_at "s2"
   walk_at "s7"
   refine bin_div (by first | assumption | decide | omega) (by first | assumption | decide | omega) ?_
   refine' es_i1 ?_
   walk_at "s17"
   refine ⟨_, TupOf.d rfl, ?_⟩
   walk_at "s10"
  exact k
local macro_rules | `(tactic| walk_at "side") => `(tactic| first | assumption | omega | decide | exact Sz.mono (by assumption) (by decide) | (with_reducible intro h; cases h; done))
theorem gcd_dvd_i {n d : Int} : ((Nat.gcd n.natAbs d.natAbs : Nat) : Int) ∣ n := Int.dvd_natAbs.mp (Int.natCast_dvd_natCast.mpr (Nat.gcd_dvd_left _ _))
theorem fdiv_abs_le {n : Int} {g : Nat} (h : (g : Int) ∣ n) : (n.fdiv g).natAbs ≤ n.natAbs := by
  by_cases hg : g = 0
  · subst hg; simp
  · obtain ⟨k, rfl⟩ := h
    rw [Int.mul_fdiv_cancel_left _ (by omega), Int.natAbs_mul]
    exact Nat.le_mul_of_pos_left _ (by simp; omega)
theorem red_sz1 {b : Nat} {n d : Int} (h : Sz b n) : Sz b (red n d).1 := by
  unfold Sz red at *
  refine Nat.lt_of_le_of_lt (fdiv_abs_le ?_) (by split <;> simpa using h)
  split
  · exact (Int.dvd_neg).mpr gcd_dvd_i
  · exact gcd_dvd_i
theorem red_sz2 {b : Nat} {n d : Int} (h : Sz b d) : Sz b (red n d).2 := by
  unfold Sz red at *
  refine Nat.lt_of_le_of_lt (fdiv_abs_le ?_) (by simpa using h)
  exact Int.natCast_dvd_natCast.mpr (Nat.gcd_dvd_right _ _)
theorem red_pos {n d : Int} (hd : d ≠ 0) : 0 < (red n d).2 := by
  unfold red
  have h0 : 0 < d.natAbs := Int.natAbs_pos.mpr hd
  obtain ⟨k, hk⟩ := Nat.gcd_dvd_right n.natAbs d.natAbs
  have hg := Nat.gcd_pos_of_pos_right n.natAbs h0
  show 0 < ((d.natAbs : Nat) : Int).fdiv (Nat.gcd n.natAbs d.natAbs : Nat)
  generalize Nat.gcd n.natAbs d.natAbs = g at *
  rw [hk, Int.natCast_mul, Int.mul_fdiv_cancel_left _ (by omega)]
  rcases Nat.eq_zero_or_pos k with z | z
  · subst z; omega
  · omega
noncomputable def fl (n d m e : Int) : Int := (red (n * e) (d * m)).1.fdiv (red (n * e) (d * m)).2
theorem c_int_div (hK : cx.K = HK P) {n d m e : Int} (hd : 0 < d) (he : 0 < e) (hm : m ≠ 0) (s1 : Sz 9000 n) (s2 : Sz 4400 d) (s3 : Sz 4400 m) (s4 : Sz 4400 e) (k : K (P2 (fl n d m e) 1) σ) :
    CalTo cx (r + 4) KE (.fn "int_div") [P2 n d, P2 m e] σ K := by
  have hp : 0 < (red (n * e) (d * m)).2 := red_pos (Int.mul_ne_zero (by omega) hm)
  have hl : (red (n * e) (d * m)).2.natAbs.log2 < 9000 := (red_sz2 (s2.mul s3)).log (by decide)
  refine go2 "x" "y" [("q", .undef)] [("div", .fn "div"), ("is_finite", .fn "is_finite"), ("ZERO", P2 0 1), ("floor", .fn "floor")] rfl hK (fo_int_div _) (by decide +kernel) (GS.cons (gv_div hK) (GS.cons (gv_is_finite hK) (GS.cons (gv_ZERO hK) (GS.cons (gv_floor hK) GS.nil)))) ?_
  conv => arg 6; whnf
  with_reducible
   walk_at "s16"
   walk_at "s0"
   walk_at "s3"
   walk_at "s1"
   apply c_div; iterate 8 walk_at "side"
   walk_at "s6"
   refine' xs_if0 ?_
   refine ts_not ?_
   refine ts_value (fun _ _ => rfl) ?_
   walk_at "s0"
   walk_at "s1"
   apply c_is_finite; iterate 2 walk_at "side"
   refine tru_bool ?_
   walk_at "s9"
   refine' xs_if0 ?_
   refine' ts_cmp_i rfl ?_
   walk_at "s2"
   walk_at "s7"
   refine cmp_eq_int ?_
   refine ways_f (by simp; first | done | omega) ?_
   refine' xs_ret ?_
   walk_at "s0"
   walk_at "s1"
   apply c_floor; iterate 3 walk_at "side"
   walk_at "s10"
  exact k
theorem c_remainder (hK : cx.K = HK P) {n d m e : Int} (hd : 0 < d) (he : 0 < e) (hm : m ≠ 0) (s1 : Sz 2100 n) (s2 : Sz 2100 d) (s3 : Sz 2100 m) (s4 : Sz 2100 e)
    (k : K (P2 (red (n * (red (fl n d m e * m) (1 * e)).2 + -(red (fl n d m e * m) (1 * e)).1 * d) (d * (red (fl n d m e * m) (1 * e)).2)).1 (red (n * (red (fl n d m e * m) (1 * e)).2 + -(red (fl n d m e * m) (1 * e)).1 * d) (d * (red (fl n d m e * m) (1 * e)).2)).2) σ) :
    CalTo cx (r + 5) KE (.fn "remainder") [P2 n d, P2 m e] σ K := by
  have hp : 0 < (red (n * e) (d * m)).2 := red_pos (Int.mul_ne_zero (by omega) hm)
  have hl : (red (n * e) (d * m)).2.natAbs.log2 < 9000 := (red_sz2 (s2.mul s3)).log (by decide)
  have q1 : Sz 4200 (fl n d m e) := by
    unfold fl
    have h := red_sz1 (d := d * m) (s1.mul s4)
    unfold Sz at *
    refine Nat.lt_of_le_of_lt ?_ h
    have := Int.natAbs_fdiv_le_natAbs (red (n * e) (d * m)).1 (red (n * e) (d * m)).2
    omega
  have z1 : Sz 1 1 := by unfold Sz; decide
  have f1 : Sz 9000 (red (fl n d m e * m) (1 * e)).1 := (red_sz1 (q1.mul s3)).mono (by decide)
  have f2 : Sz 4400 (red (fl n d m e * m) (1 * e)).2 := (red_sz2 (z1.mul s4)).mono (by decide)
  have hp2 : 0 < (red (fl n d m e * m) (1 * e)).2 := red_pos (by omega)
  have z2 : Sz 4400 1 := z1.mono (by decide)
  refine go2 "x" "y" [] [("is_na", .fn "is_na"), ("NAN", P2 0 0), ("sub", .fn "sub"), ("mul", .fn "mul"), ("floor", .fn "floor"), ("div", .fn "div")] rfl hK (fo_remainder _) (by decide +kernel) (GS.cons (gv_is_na hK) (GS.cons (gv_NAN hK) (GS.cons (gv_sub hK) (GS.cons (gv_mul hK) (GS.cons (gv_floor hK) (GS.cons (gv_div hK) GS.nil)))))) ?_
  conv => arg 6; whnf
  with_reducible
   refine' xs_if0 ?_
   refine ts_bool ?_
   refine bs_or ?_
   refine ts_value (fun _ _ => rfl) ?_
   walk_at "s0"
   walk_at "s1"
   apply c_is_na; iterate 2 walk_at "side"
   refine tru_bool ?_
   walk_at "s9"
   refine bs_or ?_
   refine ts_value (fun _ _ => rfl) ?_
   walk_at "s0"
   walk_at "s1"
   apply c_is_na; iterate 2 walk_at "side"
   refine tru_bool ?_
   walk_at "s9"
   refine bs_or_nil ?_
   walk_at "s9"
   refine' xs_if0 ?_
   refine ts_bool ?_
   refine bs_or ?_
   refine' ts_cmp_i rfl ?_
   walk_at "s2"
   walk_at "s7"
   refine cmp_eq_int ?_
   refine ways_f (by simp; first | done | omega) ?_
   refine bs_or ?_
   refine' ts_cmp_i rfl ?_
   walk_at "s2"
   walk_at "s7"
   refine cmp_eq_int ?_
   refine ways_f (by simp; first | done | omega) ?_
   refine bs_or_nil ?_
   walk_at "s9"
   refine' xs_if0 ?_
   refine' ts_cmp_i rfl ?_
   walk_at "s2"
   walk_at "s7"
   refine cmp_eq_int ?_
   refine ways_f (by simp; first | done | omega) ?_
   refine' xs_ret ?_
   walk_at "s0"
   walk_at "s3"
   walk_at "s19"
   walk_at "s0"
   refine es_cons (fun _ => rfl) ?_
   walk_at "s0"
   walk_at "s19"
   walk_at "s0"
   walk_at "s3"
   walk_at "s1"
   apply c_div; iterate 8 walk_at "side"
   apply c_floor; iterate 3 walk_at "side"
   walk_at "s1"
  apply c_mul; iterate 7 walk_at "side"
  apply c_sub; iterate 7 walk_at "side"
  with_reducible
   walk_at "s10"
  exact k
noncomputable def cmpI (x y : Int) : Int := if x = y then 0 else if x < y then -1 else 1
theorem c_compare (hK : cx.K = HK P) {n d m e : Int} (hd : 0 < d) (he : 0 < e) (s1 : Sz 9000 n) (s2 : Sz 9000 d) (s3 : Sz 9000 m) (s4 : Sz 9000 e) (k : K (I (cmpI (n * e) (m * d))) σ) :
    CalTo cx (r + 2) KE (.fn "compare") [P2 n d, P2 m e] σ K := by
  have o1 : IntMulOk n e := s1.ok s4
  have o2 : IntMulOk m d := s3.ok s2
  refine go2 "x" "y" [("left", .undef), ("right", .undef)] [("is_na", .fn "is_na")] rfl hK (fo_compare _) (by decide +kernel) (GS.cons (gv_is_na hK) GS.nil) ?_
  conv => arg 6; whnf
  with_reducible
   refine' xs_if0 ?_
   refine ts_bool ?_
   refine bs_or ?_
   refine ts_value (fun _ _ => rfl) ?_
   walk_at "s0"
   walk_at "s1"
   apply c_is_na; iterate 2 walk_at "side"
   refine tru_bool ?_
   walk_at "s9"
   refine bs_or ?_
   refine ts_value (fun _ _ => rfl) ?_
   walk_at "s0"
   walk_at "s1"
   apply c_is_na; iterate 2 walk_at "side"
   refine tru_bool ?_
   walk_at "s9"
   refine bs_or_nil ?_
   walk_at "s9"
   refine' xs_if ?_
   refine ts_bool ?_
   refine bs_and ?_
   refine' ts_cmp_i rfl ?_
   walk_at "s2"
   walk_at "s7"
   refine cmp_eq_int ?_
   refine ways_f (by simp; first | done | omega) ?_
   walk_at "s9"
   walk_at "s16"
   refine ev_bin ?_
   walk_at "s2"
   walk_at "s7"
   walk_at "s2"
   walk_at "s7"
   walk_at "s21"
   walk_at "s6"
   walk_at "s16"
   refine ev_bin ?_
   walk_at "s2"
   walk_at "s7"
   walk_at "s2"
   walk_at "s7"
   walk_at "s21"
   walk_at "s6"
   refine' xs_if ?_
   refine' ts_cmp_i rfl ?_
   walk_at "s2"
   walk_at "s7"
   refine cmp_eq_int ?_
   refine ways_f (by simp; first | done | omega) ?_
   refine' xs_if0 ?_
   refine' ts_cmp_i rfl ?_
   walk_at "s2"
   walk_at "s7"
   refine cmp_eq_int ?_
   refine ways_f (by simp; first | done | omega) ?_
   refine xs_nil ?_
   refine xs_nil ?_
   refine' xs_if0 ?_
   refine' ts_cmp_ll ?l_1 ?u_1 ?l2_1 ?u2_1 rfl ?_; (case l_1 => walk_at "lk"); (case u_1 => walk_at "und"); (case l2_1 => walk_at "lk"); (case u2_1 => walk_at "und")
   refine cmp_eq_int ?_
  refine ⟨fun h => ?_, fun h => ?_⟩
  · with_reducible
     refine' xs_ret_i ?_
     walk_at "s10"
    rw [cmpI, if_pos (by simpa using h)] at k; exact k
  · have h : ¬ n * e = m * d := by simpa using h
    rw [cmpI, if_neg h] at k
    with_reducible
     refine' xs_ret ?_
     refine ev_ifexp ?_
     refine' ts_cmp_ll ?l_2 ?u_2 ?l2_2 ?u2_2 rfl ?_; (case l_2 => walk_at "lk"); (case u_2 => walk_at "und"); (case l2_2 => walk_at "lk"); (case u2_2 => walk_at "und")
     refine cmp_lt_int ?_
    refine ⟨fun h => ?_, fun h => ?_⟩
    · with_reducible
       refine ev_neg ?_
       refine ev_cint ?_
       refine ⟨_, rfl, ?_⟩
       walk_at "s10"
      rw [if_pos (by simpa using h)] at k; exact k
    · with_reducible
       refine ev_cint ?_
       walk_at "s10"
      rw [if_neg (by simpa using h)] at k; exact k
noncomputable def powR (n d c : Int) : Int × Int :=
  if n = 1 ∧ d = 1 then (1, 1) else if n = -1 ∧ d = 1 then (if c.fmod 2 = 0 then (1, 1) else (-1, 1)) else if 0 ≤ c then (n ^ c.toNat, d ^ c.toNat) else red (d ^ (-c).toNat) (n ^ (-c).toNat)
theorem eqv2 {a b c d : Int} : PyData.eqv (.tuple [.int a, .int b]) (.tuple [.int c, .int d]) = (a == c && b == d) := by simp [PyData.eqv, PyData.eqvAll]
theorem Sz.pow {b : Nat} {n : Int} (h : Sz b n) : ∀ k : Nat, Sz (b * k + 1) (n ^ k)
  | 0 => by unfold Sz; simp
  | k + 1 => by
    have := (Sz.pow h k).mul h
    rw [Int.pow_succ]
    exact this.mono (by rw [Nat.mul_succ]; omega)
noncomputable def FalseAt (σ : Sig) (z : Bool) (σ' : Sig) : Prop := z = false ∧ σ' = σ
theorem c_whole_power (hK : cx.K = HK P) {n d c : Int} (hd : 0 < d) (hn : n = 0 → 0 ≤ c) (hc : -3 ≤ c) (hc' : c ≤ 3) (s1 : Sz 2100 n) (s2 : Sz 2100 d) (k : K (P2 (powR n d c).1 (powR n d c).2) σ) :
    CalTo cx (r + 3) KE (.fn "whole_power") [P2 n d, I c] σ K := by
  have e3 : decide ((4096 : Int) < (c.natAbs : Nat)) = false := decide_eq_false (by omega)
  have e4 : 0 - c ≤ 3 := by omega
  have lim : ∀ x : Int, Sz 2100 x → ∀ y : Int, y ≤ 3 → 0 ≤ y → (Builtin.Int.intBits x : Int) * y ≤ 2 ^ 27 := fun x hx y hy h0 => by
    have h1 := hx.bits
    have : (Builtin.Int.intBits x : Int) * y ≤ 2100 * 3 := Int.mul_le_mul (by omega) hy h0 (by omega)
    exact Int.le_trans this (by decide)
  refine go2 "x" "n" [] [("ONE", P2 1 1), ("abs", .cv (.builtin "abs")), ("MOST_POWER", I 4096), ("Refusal", .fn "Refusal"), ("make", .fn "make")] rfl hK (fo_whole_power _) (by decide +kernel) (GS.cons (gv_ONE hK) (GS.cons (gvb_abs hK) (GS.cons (gv_MOST_POWER hK) (GS.cons (gv_Refusal hK) (GS.cons (gv_make hK) GS.nil))))) ?_
  conv => arg 6; whnf
  with_reducible
   refine' xs_if0 ?_
   walk_at "s13"
   refine' ev_global ?h_1 ?_; (case h_1 => walk_at "lk")
   refine cmp_eq_data rfl rfl ?_
  rw [eqv2]
  refine ⟨fun h => ?_, fun h => ?_⟩
  · have h : n = 1 ∧ d = 1 := by simpa using h
    with_reducible
     refine' xs_ret ?_
     refine' ev_global ?h_2 ?_; (case h_2 => walk_at "lk")
     walk_at "s10"
    rw [powR, if_pos h] at k; exact k
  · have h : ¬ (n = 1 ∧ d = 1) := by simpa using h
    rw [powR, if_neg h] at k
    by_cases h2 : n = -1 ∧ d = 1
    · obtain ⟨rfl, rfl⟩ := h2
      rw [if_pos ⟨rfl, rfl⟩] at k
      with_reducible
       refine' xs_if0 ?_
       refine ts_bool ?_
       refine bs_and ?_
       refine ts_cmp rfl ?_
       walk_at "s2"
       walk_at "s7"
       refine ev_neg ?_
       refine ev_cint ?_
       refine ⟨_, rfl, ?_⟩
       refine cmp_eq_int ?_
       walk_at "s14"
       refine bs_and ?_
       refine' ts_cmp_i rfl ?_
       walk_at "s2"
       walk_at "s7"
       refine cmp_eq_int ?_
       walk_at "s14"
       refine bs_and_nil ?_
       walk_at "s14"
       refine' xs_ret ?_
       refine ev_ifexp ?_
       refine' ts_cmp_i rfl ?_
       refine' ev_bin_li ?l_3 ?u_3 ?_; (case l_3 => walk_at "lk"); (case u_3 => walk_at "und")
       refine bin_mod (by first | assumption | omega | exact of_decide_eq_true rfl) ?_
       refine cmp_eq_int ?_
      refine ⟨fun h3 => ?_, fun h3 => ?_⟩
      · with_reducible
         refine' ev_global ?h_4 ?_; (case h_4 => walk_at "lk")
         walk_at "s10"
        rw [if_pos (by simpa using h3)] at k; exact k
      · with_reducible
         walk_at "s5"
         walk_at "s10"
        rw [if_neg (by simpa using h3)] at k; exact k
    · rw [if_neg h2] at k
      have z0 : n ≠ 0 ∨ 0 ≤ c := by omega
      have p1 := lim n s1 c hc'
      have p2 := lim d s2 c hc'
      have q1 := lim n s1 (0 - c) (by omega)
      have q2 := lim d s2 (0 - c) (by omega)
      have fin : ∀ y : Int, 0 ≤ y → y ≤ 3 → n ≠ 0 → (n ^ y.toNat).natAbs.log2 < 9000 ∧ n ^ y.toNat ≠ 0 := fun y h0 h3 hn => by
        refine ⟨(s1.pow y.toNat).log ?_, Int.pow_ne_zero hn⟩
        have : 2100 * y.toNat ≤ 2100 * 3 := Nat.mul_le_mul_left _ (by omega)
        omega
      have e12 : ((n == -1) = true ∧ (d == 1) = false) ∨ (n == -1) = false := by
        by_cases h1 : n = -1
        · exact .inl ⟨by simp [h1], by simpa using fun z => h2 ⟨h1, z⟩⟩
        · exact .inr (by simpa using h1)
      with_reducible
       refine' xs_if0 ?_
      refine ts_mono (K := FalseAt σ) ?_ ?_
      · rcases e12 with ⟨e1, e2⟩ | e1
        · with_reducible
           refine ts_bool ?_
           refine bs_and ?_
           refine ts_cmp rfl ?_
           walk_at "s2"
           walk_at "s7"
           refine ev_neg ?_
           refine ev_cint ?_
           refine ⟨_, rfl, ?_⟩
           refine cmp_eq_int ?_
           refine ways_t (by with_reducible assumption) ?_
           refine bs_and ?_
           refine' ts_cmp_i rfl ?_
           walk_at "s2"
           walk_at "s7"
           refine cmp_eq_int ?_
           walk_at "s24"
          exact ⟨rfl, rfl⟩
        · with_reducible
           refine ts_bool ?_
           refine bs_and ?_
           refine ts_cmp rfl ?_
           walk_at "s2"
           walk_at "s7"
           refine ev_neg ?_
           refine ev_cint ?_
           refine ⟨_, rfl, ?_⟩
           refine cmp_eq_int ?_
           walk_at "s24"
          exact ⟨rfl, rfl⟩
      · rintro z σ' ⟨rfl, rfl⟩
        with_reducible
         walk_at "s9"
         refine' xs_if0 ?_
         refine ts_cmp rfl ?_
         walk_at "s0"
         walk_at "s1"
         refine bl_abs ?_
         refine' ev_global ?h_5 ?_; (case h_5 => walk_at "lk")
         refine cmp_gt_int ?_
         walk_at "s24"
         refine' xs_if0 ?_
         refine' ts_cmp_li ?l_6 ?u_6 rfl ?_; (case l_6 => walk_at "lk"); (case u_6 => walk_at "und")
         refine cmp_ge_int ?_
        refine ⟨fun h3 => ?_, fun h3 => ?_⟩
        · have h3 : 0 ≤ c := of_decide_eq_true h3
          rw [if_pos h3] at k
          have p1 := p1 h3; have p2 := p2 h3
          with_reducible
           refine' xs_ret ?_
           refine ev_tuple_a ?_
           refine es_cons (fun _ => rfl) ?_
           refine ev_bin ?_
           walk_at "s2"
           walk_at "s7"
           walk_at "s5"
           refine' bin_pow ?h0_7 ?hm_7 ?_; (case h0_7 => walk_at "side"); (case hm_7 => walk_at "side")
           walk_at "s19"
           refine ev_bin ?_
           walk_at "s2"
           walk_at "s7"
           walk_at "s5"
           refine' bin_pow ?h0_8 ?hm_8 ?_; (case h0_8 => walk_at "side"); (case hm_8 => walk_at "side")
           walk_at "s17"
           refine ⟨_, TupOf.d rfl, ?_⟩
           walk_at "s10"
          exact k
        · have h3 : ¬ 0 ≤ c := of_decide_eq_false h3
          rw [if_neg h3] at k
          have h5 : 0 ≤ 0 - c := by omega
          have hz := fin (0 - c) h5 e4 (z0.resolve_right h3)
          have q1 := q1 h5; have q2 := q2 h5
          obtain ⟨hz, hz'⟩ := hz
          with_reducible
           refine' xs_ret ?_
           walk_at "s0"
           refine es_cons (fun _ => rfl) ?_
           refine ev_bin ?_
           walk_at "s2"
           walk_at "s7"
           refine ev_bin ?_
           refine ev_cint ?_
           walk_at "s5"
           refine bin_sub ?_
           refine' bin_pow ?h0_9 ?hm_9 ?_; (case h0_9 => walk_at "side"); (case hm_9 => walk_at "side")
           walk_at "s19"
           refine ev_bin ?_
           walk_at "s2"
           walk_at "s7"
           refine ev_bin ?_
           refine ev_cint ?_
           walk_at "s5"
           refine bin_sub ?_
           refine' bin_pow ?h0_10 ?hm_10 ?_; (case h0_10 => walk_at "side"); (case hm_10 => walk_at "side")
           apply c_make; iterate 3 walk_at "side"
           walk_at "s10"
          rw [Int.zero_sub]
          exact k
noncomputable def pwr (n d c : Int) : Int × Int := if (n = 1 ∧ d = 1) ∨ c = 0 then (1, 1) else if n = 0 ∧ d = 1 then (0, 1) else powR n d c
theorem c_power (hK : cx.K = HK P) {n d c : Int} (hd : 0 < d) (hn : n = 0 → 0 < c) (hc : -3 ≤ c) (hc' : c ≤ 3) (s1 : Sz 2100 n) (s2 : Sz 2100 d) (k : K (P2 (pwr n d c).1 (pwr n d c).2) σ) :
    CalTo cx (r + 4) KE (.fn "power") [P2 n d, P2 c 1] σ K := by
  have hn' : n = 0 → 0 ≤ c := fun z => by have := hn z; omega
  refine go2 "x" "y" [] [("ONE", P2 1 1), ("ZERO", P2 0 1), ("is_na", .fn "is_na"), ("INF", P2 1 0), ("whole_power", .fn "whole_power"), ("NAN", P2 0 0), ("Refusal", .fn "Refusal")] rfl hK (fo_power _) (by decide +kernel) (GS.cons (gv_ONE hK) (GS.cons (gv_ZERO hK) (GS.cons (gv_is_na hK) (GS.cons (gv_INF hK) (GS.cons (gv_whole_power hK) (GS.cons (gv_NAN hK) (GS.cons (gv_Refusal hK) GS.nil))))))) ?_
  conv => arg 6; whnf
  by_cases h1 : (n = 1 ∧ d = 1) ∨ c = 0
  · rw [pwr, if_pos h1] at k
    by_cases h2 : n = 1 ∧ d = 1
    · have e1 : PyData.eqv (.tuple [.int n, .int d]) (.tuple [.int 1, .int 1]) = true := by rw [eqv2]; simp [h2]
      with_reducible
       refine' xs_if0 ?_
       refine ts_bool ?_
       refine bs_or ?_
       walk_at "s13"
       refine' ev_global ?h_1 ?_; (case h_1 => walk_at "lk")
       refine cmp_eq_data rfl rfl ?_
       refine ways_t (by with_reducible assumption) ?_
       walk_at "s14"
       refine' xs_ret ?_
       refine' ev_global ?h_2 ?_; (case h_2 => walk_at "lk")
       walk_at "s10"
      try rw [e1]
      exact k
    · have e1 : PyData.eqv (.tuple [.int n, .int d]) (.tuple [.int 1, .int 1]) = false := by rw [eqv2]; simpa using h2
      have e2 : PyData.eqv (.tuple [.int c, .int 1]) (.tuple [.int 0, .int 1]) = true := by rw [eqv2]; simp [h1.resolve_left h2]
      with_reducible
       refine' xs_if0 ?_
       refine ts_bool ?_
       refine bs_or ?_
       walk_at "s13"
       refine' ev_global ?h_3 ?_; (case h_3 => walk_at "lk")
       refine cmp_eq_data rfl rfl ?_
       walk_at "s24"
       refine bs_or ?_
       walk_at "s13"
       refine' ev_global ?h_4 ?_; (case h_4 => walk_at "lk")
       refine cmp_eq_data rfl rfl ?_
       refine ways_t (by with_reducible assumption) ?_
       walk_at "s14"
       refine' xs_ret ?_
       refine' ev_global ?h_5 ?_; (case h_5 => walk_at "lk")
       walk_at "s10"
      try rw [e1]
      try rw [e2]
      exact k
  · rw [pwr, if_neg h1] at k
    have e1 : PyData.eqv (.tuple [.int n, .int d]) (.tuple [.int 1, .int 1]) = false := by rw [eqv2]; simpa using fun a b => h1 (.inl ⟨a, b⟩)
    have e2 : PyData.eqv (.tuple [.int c, .int 1]) (.tuple [.int 0, .int 1]) = false := by rw [eqv2]; simpa using fun a => h1 (.inr a)
    with_reducible
     refine' xs_if0 ?_
     refine ts_bool ?_
     refine bs_or ?_
     walk_at "s13"
     refine' ev_global ?h_6 ?_; (case h_6 => walk_at "lk")
     refine cmp_eq_data rfl rfl ?_
     walk_at "s24"
     refine bs_or ?_
     walk_at "s13"
     refine' ev_global ?h_7 ?_; (case h_7 => walk_at "lk")
     refine cmp_eq_data rfl rfl ?_
     walk_at "s24"
     refine bs_or_nil ?_
     walk_at "s9"
     refine' xs_if0 ?_
     refine ts_bool ?_
     refine bs_or ?_
     refine ts_value (fun _ _ => rfl) ?_
     walk_at "s0"
     walk_at "s1"
     apply c_is_na; iterate 2 walk_at "side"
     refine tru_bool ?_
     walk_at "s9"
     refine bs_or ?_
     refine ts_value (fun _ _ => rfl) ?_
     walk_at "s0"
     walk_at "s1"
     apply c_is_na; iterate 2 walk_at "side"
     refine tru_bool ?_
     walk_at "s9"
     refine bs_or_nil ?_
     walk_at "s9"
     refine' xs_if0 ?_
     walk_at "s13"
     refine' ev_global ?h_8 ?_; (case h_8 => walk_at "lk")
     refine cmp_eq_data rfl rfl ?_
    try rw [e1]
    try rw [e2]
    by_cases h3 : n = 0 ∧ d = 1
    · have e3 : PyData.eqv (.tuple [.int n, .int d]) (.tuple [.int 0, .int 1]) = true := by rw [eqv2]; simp [h3]
      have hp : 0 < c := hn h3.1
      rw [if_pos h3] at k
      try rw [e3]
      with_reducible
       walk_at "s14"
       refine' xs_ret ?_
       refine ev_ifexp ?_
       refine' ts_cmp_i rfl ?_
       walk_at "s2"
       walk_at "s7"
       refine cmp_gt_int ?_
       refine ways_t (by simp; first | done | omega) ?_
       refine' ev_global ?h_9 ?_; (case h_9 => walk_at "lk")
       walk_at "s10"
      exact k
    · have e3 : PyData.eqv (.tuple [.int n, .int d]) (.tuple [.int 0, .int 1]) = false := by rw [eqv2]; simpa using h3
      rw [if_neg h3] at k
      try rw [e3]
      with_reducible
       walk_at "s9"
       refine' xs_if0 ?_
       refine' ts_cmp_i rfl ?_
       walk_at "s2"
       walk_at "s7"
       refine cmp_eq_int ?_
       walk_at "s9"
       refine' xs_if0 ?_
       refine' ts_cmp_i rfl ?_
       walk_at "s2"
       walk_at "s7"
       refine cmp_eq_int ?_
       refine ways_f (by simp; first | done | omega) ?_
       refine' xs_if0 ?_
       refine' ts_cmp_i rfl ?_
       walk_at "s2"
       walk_at "s7"
       refine cmp_eq_int ?_
       walk_at "s14"
       refine' xs_ret ?_
       walk_at "s0"
       walk_at "s3"
       walk_at "s19"
       walk_at "s2"
       walk_at "s7"
       apply c_whole_power; iterate 7 walk_at "side"
       walk_at "s10"
      exact k
noncomputable abbrev mVec (x : Value) : List Value → List (Str × Value) | [a, b] => [("self", x), ("kind", a), ("items", b), ("attrs", .none)] | _ => []
noncomputable abbrev mSym (x : Value) : List Value → List (Str × Value) | [a] => [("self", x), ("name", a)] | _ => []
noncomputable abbrev mCal (x : Value) : List Value → List (Str × Value) | [a, b] => [("self", x), ("items", a), ("tags", b), ("attrs", .none)] | _ => []
theorem okVector (P : Params) : ClsW (HK P) "Vector" fVec 2 mVec pVec :=
  .mk (C := 257) (ns_Vector P) (by kernel_rfl) (by
    refine .mk (fI := 247) (qual := Str.ofString "Vector.__init__") (name := sName (mem 37 0)) (params := sArgs (mem 37 0)) (body := sBody (mem 37 0)) (scope := sScope (mem 37 0)) (oc := .type "function") (od := none) (osl := #[]) (dV := (.ref 240)) (kV := .none) (doc := .none) (pm := (vS "vectorcove.values" 465)) (cdv := .ref 246) (ct := .none) (an := none)
      (ns_Vector P) (by kernel_rfl) (by kernel_rfl) (by kernel_rfl) (by kernel_rfl) (by kernel_rfl) (by kernel_rfl) ?ht (by kernel_rfl) (by kernel_rfl) ?hb (by decide +kernel) ?hloc (by kernel_rfl) (by kernel_rfl) (by kernel_rfl) (by kernel_rfl) ?hself ?ini
    case ht =>
      intro f hf
      simp only [fVec, List.mem_cons, List.not_mem_nil, or_false] at hf
      rcases hf with rfl | rfl | rfl | rfl | rfl <;> kernel_rfl
    case hb =>
      intro s x vs hl X
      obtain ⟨a, b, rfl⟩ := len2 hl
      exact binds_K (T := 240) (o := oTup [.none] 0) X rfl (by kernel_rfl) rfl rfl rfl
    case hloc =>
      intro x vs hl
      obtain ⟨a, b, rfl⟩ := len2 hl
      exact locs (by kernel_rfl)
    case hself =>
      intro x vs hl
      obtain ⟨a, b, rfl⟩ := len2 hl
      rfl
    case ini =>
      intro R L x avs vs h1 h2 ha hn hbb hss
      obtain ⟨a, b, rfl⟩ := len2 h1
      obtain ⟨c, d, rfl⟩ := len2 h2
      · skip
        have ra := ha 0 _ _ rfl rfl; have rb := ha 1 _ _ rfl rfl
        conv => arg 5; whnf
        repeat (first | exact Ini.nil | refine Ini.name (by kernel_rfl) (by decide) rfl (by assumption) ?_ | refine Ini.bool (hbb _) ?_ | refine Ini.none hn ?_ | refine Ini.str (hss _) ?_))
theorem okSymbol (P : Params) : ClsW (HK P) "Symbol" fSym 1 mSym pSym :=
  .mk (C := 278) (ns_Symbol P) (by kernel_rfl) (by
    refine .mk (fI := 275) (qual := Str.ofString "Symbol.__init__") (name := sName (mem 38 0)) (params := sArgs (mem 38 0)) (body := sBody (mem 38 0)) (scope := sScope (mem 38 0)) (oc := .type "function") (od := none) (osl := #[]) (dV := .none) (kV := .none) (doc := .none) (pm := (vS "vectorcove.values" 465)) (cdv := .ref 274) (ct := .none) (an := none)
      (ns_Symbol P) (by kernel_rfl) (by kernel_rfl) (by kernel_rfl) (by kernel_rfl) (by kernel_rfl) (by kernel_rfl) ?ht (by kernel_rfl) (by kernel_rfl) ?hb (by decide +kernel) ?hloc (by kernel_rfl) (by kernel_rfl) (by kernel_rfl) (by kernel_rfl) ?hself ?ini
    case ht =>
      intro f hf
      simp only [fSym, List.mem_cons, List.not_mem_nil, or_false] at hf
      rcases hf with rfl | rfl | rfl <;> kernel_rfl
    case hb =>
      intro s x vs hl X
      obtain ⟨a, rfl⟩ := len1 hl
      exact BindsTo.of_eq rfl
    case hloc =>
      intro x vs hl
      obtain ⟨a, rfl⟩ := len1 hl
      exact locs (by kernel_rfl)
    case hself =>
      intro x vs hl
      obtain ⟨a, rfl⟩ := len1 hl
      rfl
    case ini =>
      intro R L x avs vs h1 h2 ha hn hbb hss
      obtain ⟨a, rfl⟩ := len1 h1
      obtain ⟨c, rfl⟩ := len1 h2
      · skip
        have ra := ha 0 _ _ rfl rfl
        conv => arg 5; whnf
        repeat (first | exact Ini.nil | refine Ini.name (by kernel_rfl) (by decide) rfl (by assumption) ?_ | refine Ini.bool (hbb _) ?_ | refine Ini.none hn ?_ | refine Ini.str (hss _) ?_))
theorem okCall (P : Params) : ClsW (HK P) "Call" fCal 2 mCal pCal :=
  .mk (C := 300) (ns_Call P) (by kernel_rfl) (by
    refine .mk (fI := 297) (qual := Str.ofString "Call.__init__") (name := sName (mem 39 0)) (params := sArgs (mem 39 0)) (body := sBody (mem 39 0)) (scope := sScope (mem 39 0)) (oc := .type "function") (od := none) (osl := #[]) (dV := (.ref 290)) (kV := .none) (doc := .none) (pm := (vS "vectorcove.values" 465)) (cdv := .ref 296) (ct := .none) (an := none)
      (ns_Call P) (by kernel_rfl) (by kernel_rfl) (by kernel_rfl) (by kernel_rfl) (by kernel_rfl) (by kernel_rfl) ?ht (by kernel_rfl) (by kernel_rfl) ?hb (by decide +kernel) ?hloc (by kernel_rfl) (by kernel_rfl) (by kernel_rfl) (by kernel_rfl) ?hself ?ini
    case ht =>
      intro f hf
      simp only [fCal, List.mem_cons, List.not_mem_nil, or_false] at hf
      rcases hf with rfl | rfl | rfl | rfl | rfl <;> kernel_rfl
    case hb =>
      intro s x vs hl X
      obtain ⟨a, b, rfl⟩ := len2 hl
      exact binds_K (T := 290) (o := oTup [.none] 0) X rfl (by kernel_rfl) rfl rfl rfl
    case hloc =>
      intro x vs hl
      obtain ⟨a, b, rfl⟩ := len2 hl
      exact locs (by kernel_rfl)
    case hself =>
      intro x vs hl
      obtain ⟨a, b, rfl⟩ := len2 hl
      rfl
    case ini =>
      intro R L x avs vs h1 h2 ha hn hbb hss
      obtain ⟨a, b, rfl⟩ := len2 h1
      obtain ⟨c, d, rfl⟩ := len2 h2
      · skip
        have ra := ha 0 _ _ rfl rfl; have rb := ha 1 _ _ rfl rfl
        conv => arg 5; whnf
        repeat (first | exact Ini.nil | refine Ini.name (by kernel_rfl) (by decide) rfl (by assumption) ?_ | refine Ini.bool (hbb _) ?_ | refine Ini.none hn ?_ | refine Ini.str (hss _) ?_))
theorem aV_kind {cx : Cx} {P : Params} (hK : cx.K = HK P) : AttrOK cx "Vector" "kind" := fun D e => by
  rw [hK, ns_Vector] at e; cases e
  rw [hK]
  exact ⟨by kernel_rfl, by kernel_rfl, none, by kernel_rfl, by kernel_rfl⟩
theorem aV_items {cx : Cx} {P : Params} (hK : cx.K = HK P) : AttrOK cx "Vector" "items" := fun D e => by
  rw [hK, ns_Vector] at e; cases e
  rw [hK]
  exact ⟨by kernel_rfl, by kernel_rfl, none, by kernel_rfl, by kernel_rfl⟩
theorem aV_attrs {cx : Cx} {P : Params} (hK : cx.K = HK P) : AttrOK cx "Vector" "attrs" := fun D e => by
  rw [hK, ns_Vector] at e; cases e
  rw [hK]
  exact ⟨by kernel_rfl, by kernel_rfl, none, by kernel_rfl, by kernel_rfl⟩
theorem aS_kind {cx : Cx} {P : Params} (hK : cx.K = HK P) : AttrOK cx "Symbol" "kind" := fun D e => by
  rw [hK, ns_Symbol] at e; cases e
  rw [hK]
  exact ⟨by kernel_rfl, by kernel_rfl, none, by kernel_rfl, by kernel_rfl⟩
theorem aS_name {cx : Cx} {P : Params} (hK : cx.K = HK P) : AttrOK cx "Symbol" "name" := fun D e => by
  rw [hK, ns_Symbol] at e; cases e
  rw [hK]
  exact ⟨by kernel_rfl, by kernel_rfl, none, by kernel_rfl, by kernel_rfl⟩
theorem aC_kind {cx : Cx} {P : Params} (hK : cx.K = HK P) : AttrOK cx "Call" "kind" := fun D e => by
  rw [hK, ns_Call] at e; cases e
  rw [hK]
  exact ⟨by kernel_rfl, by kernel_rfl, none, by kernel_rfl, by kernel_rfl⟩
theorem aC_items {cx : Cx} {P : Params} (hK : cx.K = HK P) : AttrOK cx "Call" "items" := fun D e => by
  rw [hK, ns_Call] at e; cases e
  rw [hK]
  exact ⟨by kernel_rfl, by kernel_rfl, none, by kernel_rfl, by kernel_rfl⟩
theorem aC_tags {cx : Cx} {P : Params} (hK : cx.K = HK P) : AttrOK cx "Call" "tags" := fun D e => by
  rw [hK, ns_Call] at e; cases e
  rw [hK]
  exact ⟨by kernel_rfl, by kernel_rfl, none, by kernel_rfl, by kernel_rfl⟩
theorem okRefusal (P : Params) : RefOk (HK P) :=
  .mk (C := 65) (ns_Refusal P) (by kernel_rfl) (by
    refine' RefAt.mk (C := 65) (B0 := 45) (fI := 62) (c1 := 0) (nm := Str.ofString "Refusal") (q := Str.ofString "Refusal") (N := 64) (bs := [.ref 45]) (hdct := true) (sn := []) (sub := []) (ab := false) (col := none) (dd := none) (k0 := some (.ref 49)) (k1 := none) (k2 := some (vS "Refusal" 234)) (k3 := some (vS "Refusal" 242)) (k5 := some (.bool true))
      (name := sName (mem 6 0)) (qual := Str.ofString "Refusal.__init__") (params := sArgs (mem 6 0)) (scope := sScope (mem 6 0)) (oc := .type "function") (od := none) (osl := #[]) (dV := .none) (kV := .none) (doc := .none) (pm := (vS "vectorcove.errors" 212)) (cdv := .ref 61) (ct := .none) (an := none) ?hC ?hB ?hN ?hNd ?hsk ?hni (by kernel_rfl) (by kernel_rfl) (by kernel_rfl) (by kernel_rfl) rfl ?h2 (by kernel_rfl) ?hb (by decide +kernel) (by kernel_rfl) (by kernel_rfl) (by kernel_rfl) (by kernel_rfl) (by kernel_rfl)
    case hC => kernel_rfl
    case hB => exact (show (HK P).lookup 45 = some (oCls "CoveError" [(.type "Exception")] [(.ref 45), (.type "Exception"), (.type "BaseException"), (.type "object")] 44 "CoveError" [(.ref 65)] [some (.ref 36), none, some (vS "CoveError" 214), some (vS "CoveError" 222), some (.builtin "Exception.__new__"), some (.bool true)]) by kernel_rfl)
    case hN => exact (show (HK P).lookup 44 = some (oDict P [("__module__", 221, (vS "vectorcove.errors" 212)), ("__firstlineno__", 225, (vI 15 224)), ("__static_attributes__", 226, (.ref 43)), ("__weakref__", 228, (.ref 46)), ("__doc__", 229, .none)] 3) by kernel_rfl)
    case hNd => rfl
    case hsk =>
      intro e he
      simp only [ents, List.toList_toArray, List.mem_toArray, List.mem_cons, List.not_mem_nil, or_false] at he
      rcases he with rfl | rfl | rfl | rfl | rfl <;> exact ⟨_, _, rfl⟩
    case hni => kernel_rfl
    case h2 => exact (show (HK P).lookup 62 = some (oFn (mem 6 0) "Refusal.__init__" .none (vS "vectorcove.errors" 212) (.ref 61)) by kernel_rfl)
    case hb => exact fun _ _ => by kernel_rfl)
theorem refOk {cx : Cx} {P : Params} (hK : cx.K = HK P) : RefOk cx.K := by rw [hK]; exact okRefusal P
theorem shareOk {cx : Cx} {P : Params} (hK : cx.K = HK P) : ∀ C, nsIn cx.K mainGlobals "Vector" = some (some (.ref C)) → findIn cx.K (.ref C) "__setattr__" = some (some (.builtin "object.__setattr__")) ∧ plainOver cx.K C = true ∧ takerIn cx.K C "shared" = some none ∧ hasDictIn cx.K C = true := fun C e => by
  rw [hK, ns_Vector] at e; cases e
  rw [hK]
  exact ⟨by kernel_rfl, by kernel_rfl, by kernel_rfl, by kernel_rfl⟩
theorem isVec {cx : Cx} {P : Params} {σ : Sig} {r : Nat} {KE : Sig → Prop} (hK : cx.K = HK P) {kk : Str} {items : List PyData} {K : AV → Sig → Prop} (k : K (B true) σ) : CalTo cx r KE (.cv (.builtin "isinstance")) [.vec kk items, .fn "Vector"] σ K :=
  bl_isinstance (C := 257) (hK ▸ ns_Vector P) (hK ▸ (by kernel_rfl : isIn (HK P) (.ref 257) 257 = true)) (hK ▸ (⟨_, (by kernel_rfl : clsIn (HK P) 257 = some { name := Str.ofString "Vector", bases := [.type "object"], mro := [.ref 257, .type "object"], ns := 256, qualname := Str.ofString "Vector", hasDict := true, slotNames := [], subclasses := [], abstract := false, collection := none, hasDel := false })⟩ : ∃ cd, clsIn (HK P) 257 = some cd)) k
theorem c_Vector {cx : Cx} {P : Params} {σ : Sig} {r : Nat} {KE : Sig → Prop} (hK : cx.K = HK P) {k : Str} {items : List PyData} {K : AV → Sig → Prop} (kk : K (.vec k items) σ) : CalTo cx (r + 1) KE (.fn "Vector") [S k, .d (.list items)] σ K := cal_vec (okVector P) hK kk
theorem c_Symbol {cx : Cx} {P : Params} {σ : Sig} {r : Nat} {KE : Sig → Prop} (hK : cx.K = HK P) {nm : Str} {K : AV → Sig → Prop} (kk : K (.sym nm) σ) : CalTo cx (r + 1) KE (.fn "Symbol") [S nm] σ K := cal_sym (okSymbol P) hK kk
theorem c_Call {cx : Cx} {P : Params} {σ : Sig} {r : Nat} {KE : Sig → Prop} (hK : cx.K = HK P) {items : List AV} {tags : List PyData} {K : AV → Sig → Prop} (kk : K (.call items tags) σ) : CalTo cx (r + 1) KE (.fn "Call") [.lst items, .d (.list tags)] σ K := cal_cal (okCall P) hK kk
theorem c_get_attr (hK : cx.K = HK P) {k nm : Str} {items : List PyData} (kk : K N σ) : CalTo cx (r + 1) KE (.fn "get_attr") [.vec k items, S nm] σ K := by
  refine go2 "v" "name" [] [] rfl hK (fo_get_attr _) (by decide +kernel) (GS.nil) ?_
  conv => arg 6; whnf
  with_reducible
   refine' xs_if0 ?_
   refine' ts_cmp_n rfl ?_
   walk_at "s8"
   refine attr_vec_attrs (aV_attrs (by assumption)) ?_
   refine' cmp_is_none ?hf_1 ?_; (case hf_1 => walk_at "nfn")
   walk_at "s14"
   refine' xs_ret_n ?_
   walk_at "s10"
  exact kk
theorem c_dim_of (hK : cx.K = HK P) {k : Str} {items : List PyData} (kk : K N σ) : CalTo cx (r + 2) KE (.fn "dim_of") [.vec k items] σ K := by
  refine go1 "v" [("dims", .undef)] [("get_attr", .fn "get_attr"), ("list", .cv (.type "list"))] rfl hK (fo_dim_of _) (by decide +kernel) (GS.cons (gv_get_attr hK) (GS.cons (gvb_list hK) GS.nil)) ?_
  conv => arg 6; whnf
  with_reducible
   walk_at "s16"
   walk_at "s0"
   walk_at "s3"
   refine' es_s1 ?_
   apply c_get_attr; iterate 1 walk_at "side"
   walk_at "s6"
   refine' xs_if0 ?_
   walk_at "s15"
   walk_at "s14"
   refine' xs_ret_n ?_
   walk_at "s10"
  exact kk
noncomputable def Kn (k : Str) : Prop := k = "integer" ∨ k = "double" ∨ k = "logical" ∨ k = "character"
structure KnF (k : Str) : Prop where
  null : (k == ("NULL" : Str)) = false
  lay : PyData.canLay0 (.str k) = true
theorem Kn.facts {k : Str} (h : Kn k) : KnF k := by rcases h with rfl | rfl | rfl | rfl <;> exact ⟨by decide +kernel, by decide +kernel⟩
theorem c_length (hK : cx.K = HK P) {k : Str} {x : PyData} (hk : Kn k) (kk : K (I 1) σ) : CalTo cx (r + 1) KE (.fn "length") [.vec k [x]] σ K := by
  have h1 := hk.facts.null
  refine go1 "v" [("kind", .undef)] [("isinstance", .cv (.builtin "isinstance")), ("Vector", .fn "Vector"), ("len", .cv (.builtin "len"))] rfl hK (fo_length _) (by decide +kernel) (GS.cons (gvb_isinstance hK) (GS.cons (gv_Vector hK) (GS.cons (gvb_len hK) GS.nil))) ?_
  conv => arg 6; whnf
  with_reducible
   walk_at "s16"
   walk_at "s8"
   refine attr_vec_kind (aV_kind (by assumption)) ?_
   walk_at "s6"
   refine' xs_if0 ?_
   walk_at "s20"
   walk_at "s24"
   refine' xs_if0 ?_
   refine ts_bool ?_
   refine bs_or ?_
   refine ts_value (fun _ _ => rfl) ?_
   walk_at "s0"
   walk_at "s3"
   walk_at "s19"
   refine' ev_global ?h_1 ?_; (case h_1 => walk_at "lk")
   refine isVec (by assumption) ?_
   refine tru_bool ?_
   walk_at "s14"
   walk_at "s14"
   refine' xs_ret ?_
   walk_at "s0"
   walk_at "s19"
   walk_at "s8"
   refine attr_vec_items (aV_items (by assumption)) ?_
   refine bl_len (.dl rfl) (.inr rfl) (by exact Nat.le_of_ble_eq_true rfl) ?_
   walk_at "s10"
  exact kk
theorem c_share (hK : cx.K = HK P) {k : Str} {items : List PyData} (kk : K (.vec k items) σ) : CalTo cx (r + 1) KE (.fn "share") [.vec k items] σ K := by
  refine go1 "v" [] [("isinstance", .cv (.builtin "isinstance")), ("Vector", .fn "Vector")] rfl hK (fo_share _) (by decide +kernel) (GS.cons (gvb_isinstance hK) (GS.cons (gv_Vector hK) GS.nil)) ?_
  conv => arg 6; whnf
  with_reducible
   refine' xs_if0 ?_
   refine ts_value (fun _ _ => rfl) ?_
   walk_at "s0"
   walk_at "s3"
   walk_at "s19"
   refine' ev_global ?h_1 ?_; (case h_1 => walk_at "lk")
   refine isVec (by assumption) ?_
   refine tru_bool ?_
   walk_at "s14"
   refine xs_cons ?_
  refine' ex_share ?sh (shareOk hK) ?_
  case sh => walk_at "lk"
  with_reducible
   refine xs_nil ?_
   walk_at "s22"
   walk_at "s10"
  exact kk
theorem c_recycle_length (hK : cx.K = HK P) (kk : K (I 1) σ) : CalTo cx (r + 1) KE (.fn "recycle_length") [I 1, I 1] σ K := by
  refine go2 "n" "m" [] [("max", .cv (.builtin "max"))] rfl hK (fo_recycle_length _) (by decide +kernel) (GS.cons (gvb_max hK) GS.nil) ?_
  conv => arg 6; whnf
  with_reducible
   refine' xs_if0 ?_
   refine ts_bool ?_
   refine bs_or ?_
   refine' ts_eqi_l ?l_1 ?_; (case l_1 => walk_at "lk")
   walk_at "s9"
   refine bs_or ?_
   refine' ts_eqi_l ?l_2 ?_; (case l_2 => walk_at "lk")
   walk_at "s9"
   refine bs_or_nil ?_
   walk_at "s9"
   refine' xs_ret ?_
   walk_at "s0"
   walk_at "s3"
   walk_at "s1"
   refine bl_max ?_
   walk_at "s10"
  exact kk
theorem c_note_recycling (hK : cx.K = HK P) {a : AV} (kk : K N σ) : CalTo cx (r + 1) KE (.fn "note_recycling") [I 1, I 1, a] σ K := by
  refine go3 "n" "m" "notes" [] [("max", .cv (.builtin "max")), ("min", .cv (.builtin "min"))] rfl hK (fo_note_recycling _) (by decide +kernel) (GS.cons (gvb_max hK) (GS.cons (gvb_min hK) GS.nil)) ?_
  conv => arg 6; whnf
  with_reducible
   refine' xs_if0 ?_
   refine ts_bool ?_
   refine bs_and ?_
   refine' ts_cmp_li ?l_1 ?u_1 rfl ?_; (case l_1 => walk_at "lk"); (case u_1 => walk_at "und")
   refine cmp_gt_int ?_
   walk_at "s14"
   refine bs_and ?_
   refine' ts_cmp_li ?l_2 ?u_2 rfl ?_; (case l_2 => walk_at "lk"); (case u_2 => walk_at "und")
   refine cmp_gt_int ?_
   walk_at "s14"
   refine bs_and ?_
   refine' ts_cmp_i rfl ?_
   refine ev_bin ?_
   walk_at "s0"
   walk_at "s3"
   walk_at "s1"
   refine bl_max ?_
   walk_at "s0"
   walk_at "s3"
   walk_at "s1"
   refine bl_min ?_
   refine bin_mod (by first | assumption | omega | exact of_decide_eq_true rfl) ?_
   refine cmp_ne_int ?_
   walk_at "s9"
   walk_at "s9"
   refine xs_nil ?_
   walk_at "s10"
  exact kk
theorem c_result_dim (hK : cx.K = HK P) {k l : Str} {x y : PyData} (hk : Kn k) (hl : Kn l) (kk : K N σ) : CalTo cx (r + 3) KE (.fn "result_dim") [.vec k [x], .vec l [y]] σ K := by
  refine go2 "u" "v" [("n", .undef), ("m", .undef), ("left", .undef), ("right", .undef), ("total", .undef)] [("length", .fn "length"), ("dim_of", .fn "dim_of"), ("Refusal", .fn "Refusal"), ("recycle_length", .fn "recycle_length")] rfl hK (fo_result_dim _) (by decide +kernel) (GS.cons (gv_length hK) (GS.cons (gv_dim_of hK) (GS.cons (gv_Refusal hK) (GS.cons (gv_recycle_length hK) GS.nil)))) ?_
  conv => arg 6; whnf
  with_reducible
   walk_at "s16"
   walk_at "s0"
   walk_at "s1"
   apply c_length; iterate 2 walk_at "side"
   walk_at "s6"
   walk_at "s16"
   walk_at "s0"
   walk_at "s1"
   apply c_length; iterate 2 walk_at "side"
   walk_at "s6"
   walk_at "s16"
   walk_at "s0"
   walk_at "s1"
   apply c_dim_of; iterate 1 walk_at "side"
   walk_at "s6"
   walk_at "s16"
   walk_at "s0"
   walk_at "s1"
   apply c_dim_of; iterate 1 walk_at "side"
   walk_at "s6"
   refine' xs_if0 ?_
   refine ts_bool ?_
   refine bs_and ?_
   refine' ts_isnot_l ?l_1 ?u_1 ?hf_1 ?_; (case l_1 => walk_at "lk"); (case u_1 => walk_at "und"); (case hf_1 => walk_at "nfn")
   walk_at "s9"
   walk_at "s9"
   refine' xs_if0 ?_
   refine ts_bool ?_
   refine bs_and ?_
   walk_at "s15"
   walk_at "s14"
   refine bs_and ?_
   walk_at "s15"
   walk_at "s14"
   refine bs_and_nil ?_
   walk_at "s14"
   refine' xs_ret_n ?_
   walk_at "s10"
  exact kk
theorem c_note_array_of_one (hK : cx.K = HK P) {k l : Str} {x y : PyData} {a : AV} (kk : K N σ) : CalTo cx (r + 3) KE (.fn "note_array_of_one") [.vec k [x], .vec l [y], a] σ K := by
  refine go3 "u" "v" "notes" [("lone", .undef), ("other", .undef), ("text", .undef)] [("dim_of", .fn "dim_of"), ("length", .fn "length")] rfl hK (fo_note_array_of_one _) (by decide +kernel) (GS.cons (gv_dim_of hK) (GS.cons (gv_length hK) GS.nil)) ?_
  conv => arg 6; whnf
  with_reducible
   walk_at "s16"
   refine ev_bool_and ?_
   refine ev_cmp rfl ?_
   walk_at "s0"
   walk_at "s1"
   apply c_dim_of; iterate 1 walk_at "side"
   refine ev_cnone ?_
   refine' cmp_isnot_none ?hf_1 ?_; (case hf_1 => walk_at "nfn")
   refine tru_bool ?_
   walk_at "s9"
   walk_at "s6"
   walk_at "s16"
   refine ev_bool_and ?_
   refine ev_cmp rfl ?_
   walk_at "s0"
   walk_at "s1"
   apply c_dim_of; iterate 1 walk_at "side"
   refine ev_cnone ?_
   refine' cmp_isnot_none ?hf_2 ?_; (case hf_2 => walk_at "nfn")
   refine tru_bool ?_
   walk_at "s9"
   walk_at "s6"
   refine' xs_if0 ?_
   refine ts_bool ?_
   refine bs_or ?_
   refine' ts_l ?l_3 ?u_3 ?_; (case l_3 => walk_at "lk"); (case u_3 => walk_at "und")
   refine tru_bool ?_
   walk_at "s9"
   refine bs_or ?_
   refine' ts_l ?l_4 ?u_4 ?_; (case l_4 => walk_at "lk"); (case u_4 => walk_at "und")
   refine tru_bool ?_
   walk_at "s9"
   refine bs_or_nil ?_
   walk_at "s9"
   refine xs_nil ?_
   walk_at "s10"
  exact kk
theorem c_common_length (hK : cx.K = HK P) {k l : Str} {x y : PyData} {a : Addr} (hk : Kn k) (hl : Kn l) (kk : K (I 1) σ) : CalTo cx (r + 4) KE (.fn "common_length") [.vec k [x], .vec l [y], .lref a] σ K := by
  refine go3 "u" "v" "notes" [] [("result_dim", .fn "result_dim"), ("note_array_of_one", .fn "note_array_of_one"), ("note_recycling", .fn "note_recycling"), ("length", .fn "length"), ("recycle_length", .fn "recycle_length")] rfl hK (fo_common_length _) (by decide +kernel) (GS.cons (gv_result_dim hK) (GS.cons (gv_note_array_of_one hK) (GS.cons (gv_note_recycling hK) (GS.cons (gv_length hK) (GS.cons (gv_recycle_length hK) GS.nil))))) ?_
  conv => arg 6; whnf
  with_reducible
   refine' xs_do (fun _ => rfl) ?_
   walk_at "s0"
   walk_at "s3"
   walk_at "s1"
   apply c_result_dim; iterate 3 walk_at "side"
   refine' xs_do (fun _ => rfl) ?_
   walk_at "s0"
   walk_at "s3"
   walk_at "s3"
   walk_at "s1"
   apply c_note_array_of_one; iterate 1 walk_at "side"
   refine' xs_do (fun _ => rfl) ?_
   walk_at "s0"
   refine es_cons (fun _ => rfl) ?_
   walk_at "s0"
   walk_at "s1"
   apply c_length; iterate 2 walk_at "side"
   refine es_cons (fun _ => rfl) ?_
   walk_at "s0"
   walk_at "s1"
   apply c_length; iterate 2 walk_at "side"
   walk_at "s1"
   apply c_note_recycling; iterate 1 walk_at "side"
   refine' xs_ret ?_
   walk_at "s0"
   refine es_cons (fun _ => rfl) ?_
   walk_at "s0"
   walk_at "s1"
   apply c_length; iterate 2 walk_at "side"
   walk_at "s19"
   walk_at "s0"
   walk_at "s1"
   apply c_length; iterate 2 walk_at "side"
   apply c_recycle_length; iterate 1 walk_at "side"
   walk_at "s10"
  exact kk
theorem c_attribute (hK : cx.K = HK P) {k nm : Str} {items : List PyData} (kk : K N σ) : CalTo cx (r + 1) KE (.fn "attribute") [.vec k items, S nm] σ K := by
  refine go2 "v" "name" [] [] rfl hK (fo_attribute _) (by decide +kernel) (GS.nil) ?_
  conv => arg 6; whnf
  with_reducible
   refine' xs_if0 ?_
   refine' ts_cmp_n rfl ?_
   walk_at "s8"
   refine attr_vec_attrs (aV_attrs (by assumption)) ?_
   refine' cmp_is_none ?hf_1 ?_; (case hf_1 => walk_at "nfn")
   walk_at "s14"
   refine' xs_ret_n ?_
   walk_at "s10"
  exact kk
theorem c_shape_attrs (hK : cx.K = HK P) {k l m : Str} {x y : PyData} {z : List PyData} (hk : Kn k) (hl : Kn l) (kk : K N σ) : CalTo cx (r + 4) KE (.fn "shape_attrs") [.vec k [x], .vec l [y], .vec m z] σ K := by
  refine go3 "u" "v" "result" [("found", .undef), ("shape", .undef), ("operand", .undef), ("heads", .undef)] [("result_dim", .fn "result_dim"), ("Vector", .fn "Vector"), ("list", .cv (.type "list")), ("attribute", .fn "attribute"), ("length", .fn "length"), ("dim_of", .fn "dim_of")] rfl hK (fo_shape_attrs _) (by decide +kernel) (GS.cons (gv_result_dim hK) (GS.cons (gv_Vector hK) (GS.cons (gvb_list hK) (GS.cons (gv_attribute hK) (GS.cons (gv_length hK) (GS.cons (gv_dim_of hK) GS.nil)))))) ?_
  conv => arg 6; whnf
  with_reducible
   walk_at "s16"
   refine ev_dict0 ?_
   walk_at "s6"
   walk_at "s16"
   walk_at "s0"
   walk_at "s3"
   walk_at "s1"
   apply c_result_dim; iterate 3 walk_at "side"
   walk_at "s6"
   refine' xs_if ?_
   refine' ts_isnot_l ?l_1 ?u_1 ?hf_1 ?_; (case l_1 => walk_at "lk"); (case u_1 => walk_at "und"); (case hf_1 => walk_at "nfn")
   walk_at "s9"
   refine xs_cons ?_
   refine ex_for (fun _ _ => rfl) ?_
   refine ie_seq ?_
   refine ev_tuple_a ?_
   walk_at "s3"
   walk_at "s1"
   walk_at "s17"
   refine ⟨_, TupOf.tup, ?_⟩
   refine ⟨_, _, .tup rfl, .inl rfl, ?_⟩
   refine for_cons ?_
   walk_at "s6"
   walk_at "s16"
   walk_at "s0"
   walk_at "s3"
   refine' es_s1 ?_
   apply c_attribute; iterate 1 walk_at "side"
   walk_at "s6"
   refine' xs_if0 ?_
   refine ts_bool ?_
   refine bs_and ?_
   refine' ts_isnot_l ?l_2 ?u_2 ?hf_2 ?_; (case l_2 => walk_at "lk"); (case u_2 => walk_at "und"); (case hf_2 => walk_at "nfn")
   walk_at "s9"
   walk_at "s9"
   refine xs_nil ?_
   refine for_cons ?_
   walk_at "s6"
   walk_at "s16"
   walk_at "s0"
   walk_at "s3"
   refine' es_s1 ?_
   apply c_attribute; iterate 1 walk_at "side"
   walk_at "s6"
   refine' xs_if0 ?_
   refine ts_bool ?_
   refine bs_and ?_
   refine' ts_isnot_l ?l_3 ?u_3 ?hf_3 ?_; (case l_3 => walk_at "lk"); (case u_3 => walk_at "und"); (case hf_3 => walk_at "nfn")
   walk_at "s9"
   walk_at "s9"
   refine xs_nil ?_
   refine for_nil ?_
   refine xs_nil ?_
   refine' xs_if0 ?_
   refine' ts_l ?l_4 ?u_4 ?_; (case l_4 => walk_at "lk"); (case u_4 => walk_at "und")
   refine tru_dct0 ?_
   walk_at "s9"
   refine xs_nil ?_
   walk_at "s10"
  exact kk
theorem c_result_attrs (hK : cx.K = HK P) {k l m : Str} {x y z : PyData} (hk : Kn k) (hl : Kn l) (kk : K N σ) : CalTo cx (r + 5) KE (.fn "result_attrs") [.vec k [x], .vec l [y], .vec m [z]] σ K := by
  refine go3 "u" "v" "result" [("operand", .undef), ("name", .undef), ("value", .undef)] [("shape_attrs", .fn "shape_attrs"), ("length", .fn "length")] rfl hK (fo_result_attrs _) (by decide +kernel) (GS.cons (gv_shape_attrs hK) (GS.cons (gv_length hK) GS.nil)) ?_
  conv => arg 6; whnf
  with_reducible
   refine' xs_do (fun _ => rfl) ?_
   walk_at "s0"
   walk_at "s3"
   walk_at "s3"
   walk_at "s1"
   apply c_shape_attrs; iterate 3 walk_at "side"
   refine xs_cons ?_
   refine ex_for (fun _ _ => rfl) ?_
   refine ie_seq ?_
   refine ev_tuple_a ?_
   walk_at "s3"
   walk_at "s1"
   walk_at "s17"
   refine ⟨_, TupOf.tup, ?_⟩
   refine ⟨_, _, .tup rfl, .inl rfl, ?_⟩
   refine for_cons ?_
   walk_at "s6"
   refine' xs_if0 ?_
   refine ts_bool ?_
   refine bs_and ?_
   refine' ts_cmp_n rfl ?_
   walk_at "s8"
   refine attr_vec_attrs (aV_attrs (by assumption)) ?_
   refine' cmp_isnot_none ?hf_1 ?_; (case hf_1 => walk_at "nfn")
   walk_at "s9"
   walk_at "s9"
   refine xs_nil ?_
   refine for_cons ?_
   walk_at "s6"
   refine' xs_if0 ?_
   refine ts_bool ?_
   refine bs_and ?_
   refine' ts_cmp_n rfl ?_
   walk_at "s8"
   refine attr_vec_attrs (aV_attrs (by assumption)) ?_
   refine' cmp_isnot_none ?hf_2 ?_; (case hf_2 => walk_at "nfn")
   walk_at "s9"
   walk_at "s9"
   refine xs_nil ?_
   refine for_nil ?_
   refine xs_nil ?_
   walk_at "s10"
  exact kk
theorem c_keep_all (hK : cx.K = HK P) {k m : Str} {x z : List PyData} (kk : K (.vec m z) σ) : CalTo cx (r + 1) KE (.fn "keep_all") [.vec k x, .vec m z] σ K := by
  refine go2 "v" "result" [] [("dict", .cv (.type "dict"))] rfl hK (fo_keep_all _) (by decide +kernel) (GS.cons (gvb_dict hK) GS.nil) ?_
  conv => arg 6; whnf
  with_reducible
   refine' xs_if0 ?_
   refine' ts_cmp_n rfl ?_
   walk_at "s8"
   refine attr_vec_attrs (aV_attrs (by assumption)) ?_
   refine' cmp_isnot_none ?hf_1 ?_; (case hf_1 => walk_at "nfn")
   walk_at "s9"
   walk_at "s22"
   walk_at "s10"
  exact kk
inductive Lf
  | w (b : Bool) (n : Int)
  | d (n m : Int)
  | c
noncomputable def Lf.kd : Lf → Str | .w false _ => "integer" | .w true _ => "logical" | .d _ _ => "double" | .c => "character"
noncomputable def Lf.item : Lf → PyData | .w _ n => .int n | .d n m => .tuple [.int n, .int m] | .c => .str "a"
noncomputable def Lf.pn : Lf → Int | .w _ n => n | .d n _ => n | .c => 0
noncomputable def Lf.pd : Lf → Int | .w _ _ => 1 | .d _ m => m | .c => 1
noncomputable abbrev V (u : Lf) : AV := .vec u.kd [u.item]
theorem Lf.kn : ∀ u : Lf, Kn u.kd
  | .w false _ => .inl rfl
  | .w true _ => .inr (.inr (.inl rfl))
  | .d _ _ => .inr (.inl rfl)
  | .c => .inr (.inr (.inr rfl))
theorem Lf.nc : ∀ {u : Lf}, u ≠ .c → u.kd ≠ "character"
  | .w false _, _ => by show Str.ofString _ ≠ Str.ofString _; decide +kernel
  | .w true _, _ => by show Str.ofString _ ≠ Str.ofString _; decide +kernel
  | .d _ _, _ => by show Str.ofString _ ≠ Str.ofString _; decide +kernel
  | .c, h => absurd rfl h
structure Lf.Ok (b : Nat) (u : Lf) : Prop where
  n : Sz b u.pn
  d : Sz b u.pd
  pos : 0 < u.pd
  w : ∀ b n, u = .w b n → n.natAbs ≤ 2147483647
noncomputable def iopF (op : Str) (a b : Int) : Int := if op = "+" then a + b else if op = "-" then a - b else if op = "*" then a * b else if op = "%/%" then a.fdiv b else a.fmod b
noncomputable def iop (op : Str) (a b : Int) : Option Int := if (iopF op a b).natAbs ≤ 2147483647 then some (iopF op a b) else none
theorem c_integer_op (hK : cx.K = HK P) {op : Str} {a b : Int} (ha : a.natAbs ≤ 2147483647) (hb : b.natAbs ≤ 2147483647) (h0 : b = 0 → op = "+" ∨ op = "-" ∨ op = "*") (k1 : ∀ i, iop op a b = some i → K (I i) σ) (k0 : iop op a b = none → K N σ) : CalTo cx (r + 1) KE (.fn "integer_op") [S op, I a, I b] σ K := by
  have o1 : IntMulOk a b := (show Sz 9000 a from Nat.lt_of_le_of_lt ha (by decide +kernel)).ok (show Sz 9000 b from Nat.lt_of_le_of_lt hb (by decide +kernel))
  have hl : b.natAbs.log2 < 9000 := (show Sz 9000 b from Nat.lt_of_le_of_lt hb (by decide +kernel)).log (by decide)
  refine go3 "op" "a" "b" [("found", .undef)] [("abs", .cv (.builtin "abs")), ("MOST_INTEGER", I 2147483647)] rfl hK (fo_integer_op _) (by decide +kernel) (GS.cons (gvb_abs hK) (GS.cons (gv_MOST_INTEGER hK) GS.nil)) ?_
  conv => arg 6; whnf
  with_reducible
   refine' xs_if0 ?_
   refine ts_bool ?_
   refine bs_or ?_
   walk_at "s15"
   refine ways_f rfl ?_
   refine bs_or ?_
   walk_at "s15"
   refine ways_f rfl ?_
   refine bs_or_nil ?_
   walk_at "s9"
   refine' xs_if ?_
   walk_at "s20"
  have fin : ∀ x, x = iopF op a b → (¬ x.natAbs ≤ 2147483647 → K N σ) ∧ (x.natAbs ≤ 2147483647 → K (I x) σ) := fun x hx => by
    subst hx
    exact ⟨fun h => k0 (by rw [iop, if_neg h]), fun h => k1 _ (by rw [iop, if_pos h])⟩
  have t : ∀ {x y : Str}, (x == y) = true → x = y := fun h => by simpa using h
  have u : ∀ {x y : Str}, (x == y) = false → ¬ x = y := fun h => by simpa using h
  refine ⟨fun h1 => ?_, fun h1 => ?_⟩
  · have f := fin (a + b) (by rw [iopF, if_pos (t h1)])
    with_reducible
     walk_at "s16"
     walk_at "s11"
     refine bin_add ?_
     walk_at "s6"
     refine xs_nil ?_
     refine' xs_if0 ?_
     refine ts_cmp rfl ?_
     walk_at "s0"
     walk_at "s1"
     refine bl_abs ?_
     refine' ev_global ?h_1 ?_; (case h_1 => walk_at "lk")
     refine cmp_gt_int ?_
    refine ⟨fun h => ?_, fun h => ?_⟩
    · with_reducible
       refine' xs_ret_n ?_
       walk_at "s10"
      exact f.1 (by simp at h; omega)
    · with_reducible
       walk_at "s22"
       walk_at "s10"
      exact f.2 (by simp at h; omega)
  · have i1 := u h1
    with_reducible
     refine' xs_if ?_
     walk_at "s20"
    refine ⟨fun h2 => ?_, fun h2 => ?_⟩
    · have f := fin (a - b) (by rw [iopF, if_neg (u h1), if_pos (t h2)])
      with_reducible
       walk_at "s16"
       walk_at "s11"
       refine bin_sub ?_
       walk_at "s6"
       refine xs_nil ?_
       refine xs_nil ?_
       refine' xs_if0 ?_
       refine ts_cmp rfl ?_
       walk_at "s0"
       walk_at "s1"
       refine bl_abs ?_
       refine' ev_global ?h_2 ?_; (case h_2 => walk_at "lk")
       refine cmp_gt_int ?_
      refine ⟨fun h => ?_, fun h => ?_⟩
      · with_reducible
         refine' xs_ret_n ?_
         walk_at "s10"
        exact f.1 (by simp at h; omega)
      · with_reducible
         walk_at "s22"
         walk_at "s10"
        exact f.2 (by simp at h; omega)
    · have i2 := u h2
      with_reducible
       refine' xs_if ?_
       walk_at "s20"
      refine ⟨fun h3 => ?_, fun h3 => ?_⟩
      · have f := fin (a * b) (by rw [iopF, if_neg (u h1), if_neg (u h2), if_pos (t h3)])
        with_reducible
         walk_at "s16"
         walk_at "s11"
         walk_at "s21"
         walk_at "s6"
         refine xs_nil ?_
         refine xs_nil ?_
         refine xs_nil ?_
         refine' xs_if0 ?_
         refine ts_cmp rfl ?_
         walk_at "s0"
         walk_at "s1"
         refine bl_abs ?_
         refine' ev_global ?h_3 ?_; (case h_3 => walk_at "lk")
         refine cmp_gt_int ?_
        refine ⟨fun h => ?_, fun h => ?_⟩
        · with_reducible
           refine' xs_ret_n ?_
           walk_at "s10"
          exact f.1 (by simp at h; omega)
        · with_reducible
           walk_at "s22"
           walk_at "s10"
          exact f.2 (by simp at h; omega)
      · have i3 := u h3
        with_reducible
         refine' xs_if ?_
         refine' ts_eqi_l ?l_4 ?_; (case l_4 => walk_at "lk")
        by_cases hz : b = 0
        · rcases h0 hz with z | z | z
          · exact absurd z i1
          · exact absurd z i2
          · exact absurd z i3
        · have hz' : (b == 0) = false := by simpa using hz
          with_reducible
           walk_at "s24"
           refine' xs_if ?_
           walk_at "s20"
          refine ⟨fun h4 => ?_, fun h4 => ?_⟩
          · have f := fin (a.fdiv b) (by rw [iopF, if_neg (u h1), if_neg (u h2), if_neg (u h3), if_pos (t h4)])
            with_reducible
             walk_at "s16"
             walk_at "s11"
             refine bin_div (by first | assumption | decide | omega) (by first | assumption | decide | omega) ?_
             walk_at "s6"
             refine xs_nil ?_
             refine xs_nil ?_
             refine xs_nil ?_
             refine xs_nil ?_
             refine xs_nil ?_
             refine' xs_if0 ?_
             refine ts_cmp rfl ?_
             walk_at "s0"
             walk_at "s1"
             refine bl_abs ?_
             refine' ev_global ?h_5 ?_; (case h_5 => walk_at "lk")
             refine cmp_gt_int ?_
            refine ⟨fun h => ?_, fun h => ?_⟩
            · with_reducible
               refine' xs_ret_n ?_
               walk_at "s10"
              exact f.1 (by simp at h; omega)
            · with_reducible
               walk_at "s22"
               walk_at "s10"
              exact f.2 (by simp at h; omega)
          · have f := fin (a.fmod b) (by rw [iopF, if_neg (u h1), if_neg (u h2), if_neg (u h3), if_neg (u h4)])
            with_reducible
             walk_at "s16"
             walk_at "s11"
             refine bin_mod (by first | assumption | omega | exact of_decide_eq_true rfl) ?_
             walk_at "s6"
             refine xs_nil ?_
             refine xs_nil ?_
             refine xs_nil ?_
             refine xs_nil ?_
             refine xs_nil ?_
             refine' xs_if0 ?_
             refine ts_cmp rfl ?_
             walk_at "s0"
             walk_at "s1"
             refine bl_abs ?_
             refine' ev_global ?h_6 ?_; (case h_6 => walk_at "lk")
             refine cmp_gt_int ?_
            refine ⟨fun h => ?_, fun h => ?_⟩
            · with_reducible
               refine' xs_ret_n ?_
               walk_at "s10"
              exact f.1 (by simp at h; omega)
            · with_reducible
               walk_at "s22"
               walk_at "s10"
              exact f.2 (by simp at h; omega)
noncomputable def dop (op : Str) (n d m e : Int) : Int × Int :=
  if op = "+" then red (n * e + m * d) (d * e) else if op = "-" then red (n * e + -m * d) (d * e) else if op = "*" then red (n * m) (d * e) else if op = "/" then red (n * e) (d * m)
  else if op = "^" then pwr n d m else if op = "%/%" then (fl n d m e, 1)
  else red (n * (red (fl n d m e * m) (1 * e)).2 + -(red (fl n d m e * m) (1 * e)).1 * d) (d * (red (fl n d m e * m) (1 * e)).2)
theorem c_double_op (hK : cx.K = HK P) {op : Str} {n d m e : Int} (hd : 0 < d) (he : 0 < e) (s1 : Sz 2100 n) (s2 : Sz 2100 d) (s3 : Sz 2100 m) (s4 : Sz 2100 e)
    (hm : m = 0 → op = "+" ∨ op = "-" ∨ op = "*" ∨ op = "^") (hp : op = "^" → e = 1 ∧ -3 ≤ m ∧ m ≤ 3 ∧ (n = 0 → 0 < m)) (k : K (P2 (dop op n d m e).1 (dop op n d m e).2) σ) : CalTo cx (r + 6) KE (.fn "double_op") [S op, P2 n d, P2 m e] σ K := by
  have f1 : Sz 9000 n := s1.mono (by decide)
  have f2 : Sz 4400 d := s2.mono (by decide)
  have f3 : Sz 9000 m := s3.mono (by decide)
  have f4 : Sz 4400 e := s4.mono (by decide)
  have f5 : Sz 4400 m := s3.mono (by decide)
  have f6 : Sz 4400 n := s1.mono (by decide)
  refine go3 "op" "x" "y" [] [("add", .fn "add"), ("sub", .fn "sub"), ("mul", .fn "mul"), ("div", .fn "div"), ("power", .fn "power"), ("int_div", .fn "int_div"), ("remainder", .fn "remainder")] rfl hK (fo_double_op _) (by decide +kernel) (GS.cons (gv_add hK) (GS.cons (gv_sub hK) (GS.cons (gv_mul hK) (GS.cons (gv_div hK) (GS.cons (gv_power hK) (GS.cons (gv_int_div hK) (GS.cons (gv_remainder hK) GS.nil))))))) ?_
  conv => arg 6; whnf
  with_reducible
   refine' xs_if0 ?_
   walk_at "s20"
  have t : ∀ {x y : Str}, (x == y) = true → x = y := fun h => by simpa using h
  have u : ∀ {x y : Str}, (x == y) = false → ¬ x = y := fun h => by simpa using h
  refine ⟨fun h1 => ?_, fun h1 => ?_⟩
  · rw [dop, if_pos (t h1)] at k
    with_reducible
     refine' xs_ret ?_
     walk_at "s0"
     walk_at "s3"
     walk_at "s1"
     apply c_add; iterate 7 walk_at "side"
     walk_at "s10"
    exact k
  · have i1 := u h1
    with_reducible
     refine' xs_if0 ?_
     walk_at "s20"
    refine ⟨fun h2 => ?_, fun h2 => ?_⟩
    · rw [dop, if_neg i1, if_pos (t h2)] at k
      with_reducible
       refine' xs_ret ?_
       walk_at "s0"
       walk_at "s3"
       walk_at "s1"
       apply c_sub; iterate 7 walk_at "side"
       walk_at "s10"
      exact k
    · have i2 := u h2
      with_reducible
       refine' xs_if0 ?_
       walk_at "s20"
      refine ⟨fun h3 => ?_, fun h3 => ?_⟩
      · rw [dop, if_neg i1, if_neg i2, if_pos (t h3)] at k
        with_reducible
         refine' xs_ret ?_
         walk_at "s0"
         walk_at "s3"
         walk_at "s1"
         apply c_mul; iterate 7 walk_at "side"
         walk_at "s10"
        exact k
      · have i3 := u h3
        with_reducible
         refine' xs_if0 ?_
         walk_at "s20"
        refine ⟨fun h4 => ?_, fun h4 => ?_⟩
        · rw [dop, if_neg i1, if_neg i2, if_neg i3, if_pos (t h4)] at k
          have hne : m ≠ 0 := fun z => by rcases hm z with q | q | q | q <;> exact absurd (q.symm.trans (t h4)) (by decide +kernel)
          with_reducible
           refine' xs_ret ?_
           walk_at "s0"
           walk_at "s3"
           walk_at "s1"
           apply c_div; iterate 8 walk_at "side"
           walk_at "s10"
          exact k
        · have i4 := u h4
          with_reducible
           refine' xs_if0 ?_
           walk_at "s20"
          refine ⟨fun h5 => ?_, fun h5 => ?_⟩
          · rw [dop, if_neg i1, if_neg i2, if_neg i3, if_neg i4, if_pos (t h5)] at k
            obtain ⟨rfl, hc, hc', hn⟩ := hp (t h5)
            with_reducible
             refine' xs_ret ?_
             walk_at "s0"
             walk_at "s3"
             walk_at "s1"
             apply c_power; iterate 7 walk_at "side"
             walk_at "s10"
            exact k
          · have i5 := u h5
            with_reducible
             refine' xs_if0 ?_
             walk_at "s20"
            refine ⟨fun h6 => ?_, fun h6 => ?_⟩
            · rw [dop, if_neg i1, if_neg i2, if_neg i3, if_neg i4, if_neg i5, if_pos (t h6)] at k
              have hne : m ≠ 0 := fun z => by rcases hm z with q | q | q | q <;> exact absurd (q.symm.trans (t h6)) (by decide +kernel)
              with_reducible
               refine' xs_ret ?_
               walk_at "s0"
               walk_at "s3"
               walk_at "s1"
               apply c_int_div; iterate 8 walk_at "side"
               walk_at "s10"
              exact k
            · have i6 := u h6
              have hne : m ≠ 0 := fun z => by rcases hm z with q | q | q | q <;> first | exact absurd q i1 | exact absurd q i2 | exact absurd q i3 | exact absurd q i5
              rw [dop, if_neg i1, if_neg i2, if_neg i3, if_neg i4, if_neg i5, if_neg i6] at k
              with_reducible
               refine' xs_ret ?_
               walk_at "s0"
               walk_at "s3"
               walk_at "s1"
               apply c_remainder; iterate 8 walk_at "side"
               walk_at "s10"
              exact k
theorem c_number_items (hK : cx.K = HK P) {kk : Str} {x : PyData} (hk : Kn kk) (nc : kk ≠ "character") (k : K (.d (.list [x])) σ) : CalTo cx (r + 2) KE (.fn "number_items") [.vec kk [x]] σ K := by
  have h0 := hk.facts.null
  have h1 := hk.facts.lay
  refine go1 "v" [] [("Refusal", .fn "Refusal")] rfl hK (fo_number_items _) (by decide +kernel) (GS.cons (gv_Refusal hK) GS.nil) ?_
  conv => arg 6; whnf
  with_reducible
   refine' xs_if0 ?_
   refine' ts_cmp_s rfl ?_
   walk_at "s8"
   refine attr_vec_kind (aV_kind (by assumption)) ?_
   refine cmp_eq_str ?_
   walk_at "s24"
   refine' xs_if0 ?_
   refine ts_cmp rfl ?_
   walk_at "s8"
   refine attr_vec_kind (aV_kind (by assumption)) ?_
   refine ev_tuple_a ?_
   refine' es_s ?_
   refine' es_s ?_
   refine' es_s1 ?_
   walk_at "s18"
   refine ⟨_, TupOf.d rfl, ?_⟩
   refine' cmp_in (T := "") ?h1_1 ?h2_1 ?hd_1 ?ha_1 (.inr rfl) ?_; (case ha_1 => first | exact .inl rfl | exact .inr rfl); (case h1_1 => walk_at "lay"); (case h2_1 => walk_at "lay"); (case hd_1 => walk_at "lay")
  rcases hk with rfl | rfl | rfl | rfl
  · with_reducible
     walk_at "s9"
     refine' xs_ret ?_
     walk_at "s8"
     refine attr_vec_items (aV_items (by assumption)) ?_
     walk_at "s10"
    exact k
  · with_reducible
     walk_at "s9"
     refine' xs_ret ?_
     walk_at "s8"
     refine attr_vec_items (aV_items (by assumption)) ?_
     walk_at "s10"
    exact k
  · with_reducible
     walk_at "s9"
     refine' xs_ret ?_
     walk_at "s8"
     refine attr_vec_items (aV_items (by assumption)) ?_
     walk_at "s10"
    exact k
  · exact absurd rfl nc
theorem c_number_items_c (hK : cx.K = HK P) {x : PyData} (k : KE σ) : CalTo cx (r + 2) KE (.fn "number_items") [.vec "character" [x]] σ K := by
  refine go1 "v" [] [("Refusal", .fn "Refusal")] rfl hK (fo_number_items _) (by decide +kernel) (GS.cons (gv_Refusal hK) GS.nil) ?_
  conv => arg 6; whnf
  with_reducible
   refine' xs_if0 ?_
   refine' ts_cmp_s rfl ?_
   walk_at "s8"
   refine attr_vec_kind (aV_kind (by assumption)) ?_
   refine cmp_eq_str ?_
   walk_at "s9"
   refine' xs_if0 ?_
   refine ts_cmp rfl ?_
   walk_at "s8"
   refine attr_vec_kind (aV_kind (by assumption)) ?_
   refine ev_tuple_a ?_
   refine' es_s ?_
   refine' es_s ?_
   refine' es_s1 ?_
   walk_at "s18"
   refine ⟨_, TupOf.d rfl, ?_⟩
   refine' cmp_in (T := "") ?h1_1 ?h2_1 ?hd_1 ?ha_1 (.inr rfl) ?_; (case ha_1 => first | exact .inl rfl | exact .inr rfl); (case h1_1 => walk_at "lay"); (case h2_1 => walk_at "lay"); (case hd_1 => walk_at "lay")
   walk_at "s14"
   refine xs_cons ?_
   refine' ex_raise ?w_2 ?l_2 (fun _ => rfl) ?_; (case w_2 => exact refOk (by assumption)); (case l_2 => walk_at "lk")
   refine ev_cstr ?_
   walk_at "s10"
  exact k
theorem c_double_items_arith_w (hK : cx.K = HK P) {kk : Str} {n : Int} (hk : kk = "integer" ∨ kk = "logical") (k : K (.d (.list [.tuple [.int n, .int 1]])) σ) : CalTo cx (r + 4) KE (.fn "double_items_arith") [.vec kk [.int n]] σ K := by
  have kn : Kn kk := hk.elim .inl fun h => .inr (.inr (.inl h))
  have nc : kk ≠ "character" := by rcases hk with rfl | rfl <;> decide +kernel
  have nd : (kk == ("double" : Str)) = false := by rcases hk with rfl | rfl <;> decide +kernel
  refine go1 "v" [("items", .undef)] [("number_items", .fn "number_items")] rfl hK (fo_double_items_arith _) (by decide +kernel) (GS.cons (gv_number_items hK) GS.nil) ?_
  conv => arg 6; whnf
  with_reducible
   walk_at "s16"
   walk_at "s0"
   walk_at "s1"
   apply c_number_items; iterate 3 walk_at "side"
   walk_at "s6"
   refine' xs_if0 ?_
   refine' ts_cmp_s rfl ?_
   walk_at "s8"
   refine attr_vec_kind (aV_kind (by assumption)) ?_
   refine cmp_eq_str ?_
   walk_at "s24"
   refine' xs_ret ?_
  refine' ev_comp_d (cap := []) (gl' := [("from_int", .fn "from_int")]) rfl (fun _ _ => rfl) ?hok (Caps.nil) (GS.cons (gv_from_int hK) GS.nil) ?_
  case hok => kernel_rfl
  with_reducible
   refine ie_seq ?_
   walk_at "s5"
   refine ⟨_, _, .dl rfl, .inr rfl, ?_⟩
   walk_at "s17"
  refine cp_cons ?_
  with_reducible
   walk_at "s0"
   walk_at "s1"
   apply c_from_int; iterate 1 walk_at "side"
  refine cp_nil ?_
  with_reducible
   refine ⟨_, rfl, ?_⟩
   walk_at "s10"
  exact k
theorem c_double_items_arith_d (hK : cx.K = HK P) {x : PyData} (k : K (.d (.list [x])) σ) : CalTo cx (r + 4) KE (.fn "double_items_arith") [.vec "double" [x]] σ K := by
  have kn : Kn "double" := .inr (.inl rfl)
  have nc : ("double" : Str) ≠ "character" := by decide +kernel
  refine go1 "v" [("items", .undef)] [("number_items", .fn "number_items")] rfl hK (fo_double_items_arith _) (by decide +kernel) (GS.cons (gv_number_items hK) GS.nil) ?_
  conv => arg 6; whnf
  with_reducible
   walk_at "s16"
   walk_at "s0"
   walk_at "s1"
   apply c_number_items; iterate 3 walk_at "side"
   walk_at "s6"
   refine' xs_if0 ?_
   refine' ts_cmp_s rfl ?_
   walk_at "s8"
   refine attr_vec_kind (aV_kind (by assumption)) ?_
   refine cmp_eq_str ?_
   walk_at "s14"
   walk_at "s22"
   walk_at "s10"
  exact k
theorem c_double_items_arith (hK : cx.K = HK P) {u : Lf} (hu : u ≠ .c) (k : K (.d (.list [.tuple [.int u.pn, .int u.pd]])) σ) : CalTo cx (r + 4) KE (.fn "double_items_arith") [V u] σ K :=
  match u, hu, k with
  | .w false _, _, k => c_double_items_arith_w hK (.inl rfl) k
  | .w true _, _, k => c_double_items_arith_w hK (.inr rfl) k
  | .d _ _, _, k => c_double_items_arith_d hK k
  | .c, hu, _ => absurd rfl hu
theorem c_double_result (hK : cx.K = HK P) {op : Str} {n d m e : Int} (hd : 0 < d) (he : 0 < e) (s1 : Sz 2100 n) (s2 : Sz 2100 d) (s3 : Sz 2100 m) (s4 : Sz 2100 e)
    (hm : m = 0 → op = "+" ∨ op = "-" ∨ op = "*" ∨ op = "^") (hp : op = "^" → e = 1 ∧ -3 ≤ m ∧ m ≤ 3 ∧ (n = 0 → 0 < m)) (k : K (.d (.list [.tuple [.int (dop op n d m e).1, .int (dop op n d m e).2]])) σ) :
    CalTo cx (r + 7) KE (.fn "double_result") [S op, .d (.list [.tuple [.int n, .int d]]), .d (.list [.tuple [.int m, .int e]]), I 1] σ K := by
  refine go4 "op" "left" "right" "n" [] [("range", .cv (.type "range"))] rfl hK (fo_double_result _) (by decide +kernel) (GS.cons (gvb_range hK) GS.nil) ?_
  conv => arg 6; whnf
  with_reducible
   refine' xs_ret ?_
  refine' ev_comp_d (cap := [("op", _), ("left", _), ("right", _)]) (gl' := [("double_op", .fn "double_op"), ("len", .cv (.builtin "len"))]) rfl (fun _ _ => rfl) ?hok (Caps.cons (by walk_at "lk") (Caps.cons (by walk_at "lk") (Caps.cons (by walk_at "lk") (Caps.nil)))) (GS.cons (gv_double_op hK) (GS.cons (gvb_len hK) GS.nil)) ?_
  case hok => kernel_rfl
  with_reducible
   refine ie_rng ?_
   walk_at "s0"
   walk_at "s1"
   refine bl_range ?_
   refine ⟨_, rfl, by decide, by decide, ?_⟩
   walk_at "s18"
  refine cp_cons ?_
  with_reducible
   walk_at "s0"
   walk_at "s3"
   refine es_cons (fun _ => rfl) ?_
   refine ev_sub (fun _ _ => ⟨_, rfl⟩) ?_
   walk_at "s5"
   refine' ev_bin_l ?l_1 ?u_1 ?_; (case l_1 => walk_at "lk"); (case u_1 => walk_at "und")
   walk_at "s0"
   walk_at "s1"
   refine bl_len (.dl rfl) (.inr rfl) (by exact Nat.le_of_ble_eq_true rfl) ?_
   refine bin_mod (by first | assumption | omega | exact of_decide_eq_true rfl) ?_
   walk_at "s23"
   walk_at "s19"
   refine ev_sub (fun _ _ => ⟨_, rfl⟩) ?_
   walk_at "s5"
   refine' ev_bin_l ?l_2 ?u_2 ?_; (case l_2 => walk_at "lk"); (case u_2 => walk_at "und")
   walk_at "s0"
   walk_at "s1"
   refine bl_len (.dl rfl) (.inr rfl) (by exact Nat.le_of_ble_eq_true rfl) ?_
   refine bin_mod (by first | assumption | omega | exact of_decide_eq_true rfl) ?_
   walk_at "s23"
   apply c_double_op; iterate 9 walk_at "side"
  refine cp_nil ?_
  with_reducible
   refine ⟨_, rfl, ?_⟩
   walk_at "s10"
  exact k
theorem xs_ret_frz {G : Glo} {ma : Loc} {x : Str} {np pos : Pos} {c : Addr} {l : List AV} {ps : List PyData} {σ2 : Sig} {rest : List Stmt} {K : Out → Loc → Sig → Prop} (hl : Lk x (.lref c) ma) (m : Rem c l σ σ2) (hp : unD l = some ps) (k : K (.ret (.d (.list ps))) ma σ2) :
    XsTo cx r G KE K (.Return (some (.Name x np)) pos :: rest) ma σ := xs_cons (ex_ret (ev_freeze (ev_local hl nofun ⟨_, _, _, _, rfl, m, hp, k⟩)))
section frz
theorem c_integer_result (hK : cx.K = HK P) {op : Str} {a b : Int} {na : Addr} {it : List AV} (ha : a.natAbs ≤ 2147483647) (hb : b.natAbs ≤ 2147483647) (h0 : b = 0 → op = "+" ∨ op = "-" ∨ op = "*")
    (ho : iop op a b = none → op = "+" ∨ op = "-" ∨ op = "*") (hl : it.length ≤ 900) (k1 : ∀ i, iop op a b = some i → K (.d (.list [.int i])) ((na, it) :: σ)) (k0 : iop op a b = none → K (.d (.list [.none])) ((na, it ++ [S "NAs produced by integer overflow"]) :: σ)) :
    CalTo cx (r + 2) KE (.fn "integer_result") [S op, .d (.list [.int a]), .d (.list [.int b]), I 1, .lref na] ((na, it) :: σ) K := by
  refine go5 "op" "left" "right" "n" "notes" [("found", .undef), ("overflow", .undef), ("i", .undef), ("a", .undef), ("b", .undef), ("value", .undef)] [("range", .cv (.type "range")), ("len", .cv (.builtin "len")), ("integer_op", .fn "integer_op")] rfl hK (fo_integer_result _) (by decide +kernel) (GS.cons (gvb_range hK) (GS.cons (gvb_len hK) (GS.cons (gv_integer_op hK) GS.nil))) ?_
  conv => arg 6; whnf
  with_reducible
   walk_at "s16"
   refine ev_list_m (es := []) ?_
   refine es_nil ?_
   walk_at "s18"
   intro
   walk_at "s6"
   walk_at "s16"
   refine ev_cbool ?_
   walk_at "s6"
   refine xs_cons ?_
   refine ex_for (fun _ _ => rfl) ?_
   refine ie_rng ?_
   walk_at "s0"
   walk_at "s1"
   refine bl_range ?_
   refine ⟨_, rfl, by decide, by decide, ?_⟩
  refine for_cons ?_
  with_reducible
   walk_at "s6"
   walk_at "s16"
   refine ev_sub (fun _ _ => ⟨_, rfl⟩) ?_
   walk_at "s5"
   refine' ev_bin_l ?l_1 ?u_1 ?_; (case l_1 => walk_at "lk"); (case u_1 => walk_at "und")
   walk_at "s0"
   walk_at "s1"
   refine bl_len (.dl rfl) (.inr rfl) (by exact Nat.le_of_ble_eq_true rfl) ?_
   refine bin_mod (by first | assumption | omega | exact of_decide_eq_true rfl) ?_
   walk_at "s23"
   walk_at "s6"
   walk_at "s16"
   refine ev_sub (fun _ _ => ⟨_, rfl⟩) ?_
   walk_at "s5"
   refine' ev_bin_l ?l_2 ?u_2 ?_; (case l_2 => walk_at "lk"); (case u_2 => walk_at "und")
   walk_at "s0"
   walk_at "s1"
   refine bl_len (.dl rfl) (.inr rfl) (by exact Nat.le_of_ble_eq_true rfl) ?_
   refine bin_mod (by first | assumption | omega | exact of_decide_eq_true rfl) ?_
   walk_at "s23"
   walk_at "s6"
   walk_at "s16"
   walk_at "s0"
   walk_at "s3"
   walk_at "s3"
   walk_at "s1"
  refine c_integer_op hK ha hb h0 (fun i hi => ?_) fun hi => ?_
  · with_reducible
     walk_at "s6"
     refine' xs_if0 ?_
     refine ts_bool ?_
     refine bs_and ?_
     walk_at "s15"
     refine ways_f rfl ?_
     walk_at "s9"
     refine' xs_do (fun _ => rfl) ?_
     refine ev_append (fun _ => rfl) (fun _ => rfl) rfl (fun _ => rfl) ?_
     walk_at "s5"
     refine ⟨_, rfl, ⟨_, by walk_at "mem"⟩, ?_⟩
     walk_at "s5"
     refine ⟨_, _, (by walk_at "su" : SU _ _ _ _ _), by walk_at "len", ?_⟩
     refine xs_nil ?_
    refine for_nil ?_
    with_reducible
     refine' xs_if0 ?_
     refine' ts_l ?l_3 ?u_3 ?_; (case l_3 => walk_at "lk"); (case u_3 => walk_at "und")
     refine tru_bool ?_
     walk_at "s9"
     refine' xs_ret_frz ?lk_4 ?rm_4 ?hp_4 ?_; (case lk_4 => walk_at "lk"); (case rm_4 => walk_at "rem"); (case hp_4 => with_unfolding_all exact rfl)
     walk_at "s10"
    exact k1 i hi
  · have hop := ho hi
    have lo : PyData.canLay0 (.str op) = true := by rcases hop with rfl | rfl | rfl <;> decide +kernel
    have hin : ([PyData.str "+", .str "-", .str "*"].any fun y => PyData.eqv y (.str op)) = true := by rcases hop with rfl | rfl | rfl <;> decide +kernel
    with_reducible
     walk_at "s6"
     refine' xs_if0 ?_
     refine ts_bool ?_
     refine bs_and ?_
     walk_at "s15"
     walk_at "s14"
     refine bs_and ?_
     walk_at "s13"
     refine ev_tuple_a ?_
     refine' es_s ?_
     refine' es_s ?_
     refine' es_s1 ?_
     walk_at "s18"
     refine ⟨_, TupOf.d rfl, ?_⟩
     walk_at "s4"
     refine ways_t (by with_reducible assumption) ?_
     refine bs_and ?_
     refine' ts_isnot_l ?l_5 ?u_5 ?hf_5 ?_; (case l_5 => walk_at "lk"); (case u_5 => walk_at "und"); (case hf_5 => walk_at "nfn")
     refine ways_t rfl ?_
     refine bs_and ?_
     refine' ts_isnot_l ?l_6 ?u_6 ?hf_6 ?_; (case l_6 => walk_at "lk"); (case u_6 => walk_at "und"); (case hf_6 => walk_at "nfn")
     refine ways_t rfl ?_
     refine bs_and_nil ?_
     walk_at "s14"
     walk_at "s16"
     refine ev_cbool ?_
     walk_at "s6"
     refine xs_nil ?_
     refine' xs_do (fun _ => rfl) ?_
     refine ev_append (fun _ => rfl) (fun _ => rfl) rfl (fun _ => rfl) ?_
     walk_at "s5"
     refine ⟨_, rfl, ⟨_, by walk_at "mem"⟩, ?_⟩
     walk_at "s5"
     refine ⟨_, _, (by walk_at "su" : SU _ _ _ _ _), by walk_at "len", ?_⟩
     refine xs_nil ?_
    refine for_nil ?_
    with_reducible
     refine' xs_if0 ?_
     refine' ts_l ?l_7 ?u_7 ?_; (case l_7 => walk_at "lk"); (case u_7 => walk_at "und")
     refine tru_bool ?_
     walk_at "s14"
     refine' xs_do (fun _ => rfl) ?_
     refine ev_append (fun _ => rfl) (fun _ => rfl) rfl (fun _ => rfl) ?_
     walk_at "s5"
     refine ⟨_, rfl, ⟨_, by walk_at "mem"⟩, ?_⟩
     refine ev_cstr ?_
     refine ⟨_, _, (by walk_at "su" : SU _ _ _ _ _), by walk_at "len", ?_⟩
     refine xs_nil ?_
     refine' xs_ret_frz ?lk_8 ?rm_8 ?hp_8 ?_; (case lk_8 => walk_at "lk"); (case rm_8 => walk_at "rem"); (case hp_8 => with_unfolding_all exact rfl)
     walk_at "s10"
    exact k0 hi
end frz
theorem c_arith_i (hK : cx.K = HK P) {op k1 k2 : Str} {a b : Int} {na : Addr} (h1 : k1 = "integer" ∨ k1 = "logical") (h2 : k2 = "integer" ∨ k2 = "logical") (ha : a.natAbs ≤ 2147483647) (hb : b.natAbs ≤ 2147483647) (h0 : b = 0 → op = "+" ∨ op = "-" ∨ op = "*")
    (ho : op = "+" ∨ op = "-" ∨ op = "*" ∨ op = "%/%" ∨ op = "%%") (hn : iop op a b = none → op = "+" ∨ op = "-" ∨ op = "*")
    (e1 : ∀ i, iop op a b = some i → K (.vec "integer" [.int i]) ((na, []) :: σ)) (e0 : iop op a b = none → K (.vec "integer" [.none]) ((na, [S "NAs produced by integer overflow"]) :: σ)) :
    CalTo cx (r + 6) KE (.fn "arith") [S op, .vec k1 [.int a], .vec k2 [.int b], .lref na] ((na, []) :: σ) K := by
  have kn1 : Kn k1 := h1.elim .inl fun h => .inr (.inr (.inl h))
  have kn2 : Kn k2 := h2.elim .inl fun h => .inr (.inr (.inl h))
  have nc1 : k1 ≠ "character" := by rcases h1 with rfl | rfl <;> decide +kernel
  have nc2 : k2 ≠ "character" := by rcases h2 with rfl | rfl <;> decide +kernel
  have nd1 : (k1 == ("double" : Str)) = false := by rcases h1 with rfl | rfl <;> decide +kernel
  have nd2 : (k2 == ("double" : Str)) = false := by rcases h2 with rfl | rfl <;> decide +kernel
  have lo : PyData.canLay0 (.str op) = true := by rcases ho with rfl | rfl | rfl | rfl | rfl <;> decide +kernel
  have hin : ([PyData.str "/", .str "^"].any fun y => PyData.eqv y (.str op)) = false := by rcases ho with rfl | rfl | rfl | rfl | rfl <;> decide +kernel
  refine go4 "op" "u" "v" "notes" [("left", .undef), ("right", .undef), ("n", .undef), ("result", .undef)] [("number_items", .fn "number_items"), ("common_length", .fn "common_length"), ("Vector", .fn "Vector"), ("double_result", .fn "double_result"), ("double_items_arith", .fn "double_items_arith"), ("integer_result", .fn "integer_result"), ("result_attrs", .fn "result_attrs")] rfl hK (fo_arith _) (by decide +kernel) (GS.cons (gv_number_items hK) (GS.cons (gv_common_length hK) (GS.cons (gv_Vector hK) (GS.cons (gv_double_result hK) (GS.cons (gv_double_items_arith hK) (GS.cons (gv_integer_result hK) (GS.cons (gv_result_attrs hK) GS.nil))))))) ?_
  conv => arg 6; whnf
  with_reducible
   walk_at "s16"
   walk_at "s0"
   walk_at "s1"
   apply c_number_items; iterate 3 walk_at "side"
   walk_at "s6"
   walk_at "s16"
   walk_at "s0"
   walk_at "s1"
   apply c_number_items; iterate 3 walk_at "side"
   walk_at "s6"
   walk_at "s16"
   walk_at "s0"
   walk_at "s3"
   walk_at "s3"
   walk_at "s1"
   apply c_common_length; iterate 3 walk_at "side"
   walk_at "s6"
   refine' xs_if ?_
   refine ts_bool ?_
   refine bs_or ?_
   refine' ts_cmp_s rfl ?_
   walk_at "s8"
   refine attr_vec_kind (aV_kind (by assumption)) ?_
   refine cmp_eq_str ?_
   walk_at "s24"
   refine bs_or ?_
   refine' ts_cmp_s rfl ?_
   walk_at "s8"
   refine attr_vec_kind (aV_kind (by assumption)) ?_
   refine cmp_eq_str ?_
   walk_at "s24"
   refine bs_or ?_
   walk_at "s13"
   refine ev_tuple_a ?_
   refine' es_s ?_
   refine' es_s1 ?_
   walk_at "s18"
   refine ⟨_, TupOf.d rfl, ?_⟩
   walk_at "s4"
   walk_at "s24"
   refine bs_or_nil ?_
   walk_at "s9"
   walk_at "s16"
   walk_at "s0"
   refine' es_s ?_
   walk_at "s19"
   walk_at "s0"
   walk_at "s3"
   walk_at "s3"
   walk_at "s3"
   walk_at "s3"
   walk_at "s1"
  refine c_integer_result hK ha hb h0 hn (by decide) (fun i hi => ?_) fun hi => ?_
  · with_reducible
     apply c_Vector; iterate 1 walk_at "side"
     walk_at "s6"
     refine xs_nil ?_
     refine' xs_do (fun _ => rfl) ?_
     walk_at "s0"
     walk_at "s3"
     walk_at "s3"
     walk_at "s1"
     apply c_result_attrs; iterate 3 walk_at "side"
     walk_at "s22"
     walk_at "s10"
    exact e1 i hi
  · with_reducible
     apply c_Vector; iterate 1 walk_at "side"
     walk_at "s6"
     refine xs_nil ?_
     refine' xs_do (fun _ => rfl) ?_
     walk_at "s0"
     walk_at "s3"
     walk_at "s3"
     walk_at "s1"
     apply c_result_attrs; iterate 3 walk_at "side"
     walk_at "s22"
     walk_at "s10"
    exact e0 hi
theorem c_arith_d (hK : cx.K = HK P) {op : Str} {u v : Lf} {na : Addr} (hu : u ≠ .c) (hv : v ≠ .c) (hd : (u.kd == ("double" : Str) || v.kd == ("double" : Str) || [PyData.str "/", .str "^"].any fun y => PyData.eqv y (.str op)) = true) (lo : PyData.canLay0 (.str op) = true)
    (pd : 0 < u.pd) (pe : 0 < v.pd) (s1 : Sz 2100 u.pn) (s2 : Sz 2100 u.pd) (s3 : Sz 2100 v.pn) (s4 : Sz 2100 v.pd)
    (hm : v.pn = 0 → op = "+" ∨ op = "-" ∨ op = "*" ∨ op = "^") (hp : op = "^" → v.pd = 1 ∧ -3 ≤ v.pn ∧ v.pn ≤ 3 ∧ (u.pn = 0 → 0 < v.pn))
    (k : K (.vec "double" [.tuple [.int (dop op u.pn u.pd v.pn v.pd).1, .int (dop op u.pn u.pd v.pn v.pd).2]]) ((na, []) :: σ)) :
    CalTo cx (r + 8) KE (.fn "arith") [S op, V u, V v, .lref na] ((na, []) :: σ) K := by
  have kn1 := u.kn
  have kn2 := v.kn
  have nc1 := Lf.nc hu
  have nc2 := Lf.nc hv
  refine go4 "op" "u" "v" "notes" [("left", .undef), ("right", .undef), ("n", .undef), ("result", .undef)] [("number_items", .fn "number_items"), ("common_length", .fn "common_length"), ("Vector", .fn "Vector"), ("double_result", .fn "double_result"), ("double_items_arith", .fn "double_items_arith"), ("integer_result", .fn "integer_result"), ("result_attrs", .fn "result_attrs")] rfl hK (fo_arith _) (by decide +kernel) (GS.cons (gv_number_items hK) (GS.cons (gv_common_length hK) (GS.cons (gv_Vector hK) (GS.cons (gv_double_result hK) (GS.cons (gv_double_items_arith hK) (GS.cons (gv_integer_result hK) (GS.cons (gv_result_attrs hK) GS.nil))))))) ?_
  conv => arg 6; whnf
  with_reducible
   walk_at "s16"
   walk_at "s0"
   walk_at "s1"
   apply c_number_items; iterate 3 walk_at "side"
   walk_at "s6"
   walk_at "s16"
   walk_at "s0"
   walk_at "s1"
   apply c_number_items; iterate 3 walk_at "side"
   walk_at "s6"
   walk_at "s16"
   walk_at "s0"
   walk_at "s3"
   walk_at "s3"
   walk_at "s1"
   apply c_common_length; iterate 3 walk_at "side"
   walk_at "s6"
   refine' xs_if ?_
   refine ts_bool ?_
   refine bs_or ?_
   refine' ts_cmp_s rfl ?_
   walk_at "s8"
   refine attr_vec_kind (aV_kind (by assumption)) ?_
   refine cmp_eq_str ?_
  refine ⟨fun h => ?_, fun h => ?_⟩
  · with_reducible
     walk_at "s14"
     walk_at "s16"
     walk_at "s0"
     refine' es_s ?_
     walk_at "s19"
     walk_at "s0"
     walk_at "s3"
     refine es_cons (fun _ => rfl) ?_
     walk_at "s0"
     walk_at "s1"
     apply c_double_items_arith; iterate 2 walk_at "side"
     refine es_cons (fun _ => rfl) ?_
     walk_at "s0"
     walk_at "s1"
     apply c_double_items_arith; iterate 2 walk_at "side"
     walk_at "s1"
     apply c_double_result; iterate 9 walk_at "side"
     apply c_Vector; iterate 1 walk_at "side"
     walk_at "s6"
     refine xs_nil ?_
     refine' xs_do (fun _ => rfl) ?_
     walk_at "s0"
     walk_at "s3"
     walk_at "s3"
     walk_at "s1"
     apply c_result_attrs; iterate 3 walk_at "side"
     walk_at "s22"
     walk_at "s10"
    exact k
  · with_reducible
     refine bs_or ?_
     refine' ts_cmp_s rfl ?_
     walk_at "s8"
     refine attr_vec_kind (aV_kind (by assumption)) ?_
     refine cmp_eq_str ?_
    refine ⟨fun h' => ?_, fun h' => ?_⟩
    · with_reducible
       walk_at "s14"
       walk_at "s16"
       walk_at "s0"
       refine' es_s ?_
       walk_at "s19"
       walk_at "s0"
       walk_at "s3"
       refine es_cons (fun _ => rfl) ?_
       walk_at "s0"
       walk_at "s1"
       apply c_double_items_arith; iterate 2 walk_at "side"
       refine es_cons (fun _ => rfl) ?_
       walk_at "s0"
       walk_at "s1"
       apply c_double_items_arith; iterate 2 walk_at "side"
       walk_at "s1"
       apply c_double_result; iterate 9 walk_at "side"
       apply c_Vector; iterate 1 walk_at "side"
       walk_at "s6"
       refine xs_nil ?_
       refine' xs_do (fun _ => rfl) ?_
       walk_at "s0"
       walk_at "s3"
       walk_at "s3"
       walk_at "s1"
       apply c_result_attrs; iterate 3 walk_at "side"
       walk_at "s22"
       walk_at "s10"
      exact k
    · have hd' : ([PyData.str "/", .str "^"].any fun y => PyData.eqv y (.str op)) = true := by rw [h, h'] at hd; exact hd
      with_reducible
       refine bs_or ?_
       walk_at "s13"
       refine ev_tuple_a ?_
       refine' es_s ?_
       refine' es_s1 ?_
       walk_at "s18"
       refine ⟨_, TupOf.d rfl, ?_⟩
       walk_at "s4"
       refine ways_t (by with_reducible assumption) ?_
       walk_at "s14"
       walk_at "s16"
       walk_at "s0"
       refine' es_s ?_
       walk_at "s19"
       walk_at "s0"
       walk_at "s3"
       refine es_cons (fun _ => rfl) ?_
       walk_at "s0"
       walk_at "s1"
       apply c_double_items_arith; iterate 2 walk_at "side"
       refine es_cons (fun _ => rfl) ?_
       walk_at "s0"
       walk_at "s1"
       apply c_double_items_arith; iterate 2 walk_at "side"
       walk_at "s1"
       apply c_double_result; iterate 9 walk_at "side"
       apply c_Vector; iterate 1 walk_at "side"
       walk_at "s6"
       refine xs_nil ?_
       refine' xs_do (fun _ => rfl) ?_
       walk_at "s0"
       walk_at "s3"
       walk_at "s3"
       walk_at "s1"
       apply c_result_attrs; iterate 3 walk_at "side"
       walk_at "s22"
       walk_at "s10"
      exact k
theorem c_arith_c (hK : cx.K = HK P) {op : Str} {k1 k2 : Str} {x y : PyData} {na : Addr} (h1 : Kn k1) (h2 : Kn k2) (h : k1 = "character" ∨ k2 = "character") (k : KE ((na, []) :: σ)) : CalTo cx (r + 6) KE (.fn "arith") [S op, .vec k1 [x], .vec k2 [y], .lref na] ((na, []) :: σ) K := by
  refine go4 "op" "u" "v" "notes" [("left", .undef), ("right", .undef), ("n", .undef), ("result", .undef)] [("number_items", .fn "number_items"), ("common_length", .fn "common_length"), ("Vector", .fn "Vector"), ("double_result", .fn "double_result"), ("double_items_arith", .fn "double_items_arith"), ("integer_result", .fn "integer_result"), ("result_attrs", .fn "result_attrs")] rfl hK (fo_arith _) (by decide +kernel) (GS.cons (gv_number_items hK) (GS.cons (gv_common_length hK) (GS.cons (gv_Vector hK) (GS.cons (gv_double_result hK) (GS.cons (gv_double_items_arith hK) (GS.cons (gv_integer_result hK) (GS.cons (gv_result_attrs hK) GS.nil))))))) ?_
  conv => arg 6; whnf
  by_cases e : k1 = "character"
  · subst e
    with_reducible
     walk_at "s16"
     walk_at "s0"
     walk_at "s1"
     apply c_number_items_c; iterate 1 walk_at "side"
     walk_at "s10"
    exact k
  · have e2 : k2 = "character" := h.resolve_left e
    subst e2
    with_reducible
     walk_at "s16"
     walk_at "s0"
     walk_at "s1"
     apply c_number_items; iterate 3 walk_at "side"
     walk_at "s6"
     walk_at "s16"
     walk_at "s0"
     walk_at "s1"
     apply c_number_items_c; iterate 1 walk_at "side"
     walk_at "s10"
    exact k
noncomputable def tr (n : Int) : Int := if n = 0 then 0 else 1
noncomputable def holdB (op : Str) (o : Int) : Bool := if op = "==" then o == 0 else if op = "!=" then o != 0 else if op = "<" then decide (o < 0) else decide (0 ≤ o)
noncomputable def hold (op : Str) (o : Int) : Int := if holdB op o then 1 else 0
theorem c_check_unary (hK : cx.K = HK P) {kk : Str} {x : List PyData} (hk : Kn kk) (nc : kk ≠ "character") (k : K N σ) : CalTo cx (r + 1) KE (.fn "check_unary") [.vec kk x] σ K := by
  have h1 := hk.facts.lay
  refine go1 "v" [] [("Refusal", .fn "Refusal")] rfl hK (fo_check_unary _) (by decide +kernel) (GS.cons (gv_Refusal hK) GS.nil) ?_
  conv => arg 6; whnf
  with_reducible
   refine' xs_if0 ?_
   refine ts_cmp rfl ?_
   walk_at "s8"
   refine attr_vec_kind (aV_kind (by assumption)) ?_
   refine ev_tuple_a ?_
   refine' es_s ?_
   refine' es_s ?_
   refine' es_s1 ?_
   walk_at "s18"
   refine ⟨_, TupOf.d rfl, ?_⟩
   refine' cmp_in (T := "") ?h1_1 ?h2_1 ?hd_1 ?ha_1 (.inr rfl) ?_; (case ha_1 => first | exact .inl rfl | exact .inr rfl); (case h1_1 => walk_at "lay"); (case h2_1 => walk_at "lay"); (case hd_1 => walk_at "lay")
  rcases hk with rfl | rfl | rfl | rfl
  · with_reducible
     walk_at "s9"
     refine xs_nil ?_
     walk_at "s10"
    exact k
  · with_reducible
     walk_at "s9"
     refine xs_nil ?_
     walk_at "s10"
    exact k
  · with_reducible
     walk_at "s9"
     refine xs_nil ?_
     walk_at "s10"
    exact k
  · exact absurd rfl nc
theorem c_check_unary_c (hK : cx.K = HK P) {x : List PyData} (k : KE σ) : CalTo cx (r + 2) KE (.fn "check_unary") [.vec "character" x] σ K := by
  refine go1 "v" [] [("Refusal", .fn "Refusal")] rfl hK (fo_check_unary _) (by decide +kernel) (GS.cons (gv_Refusal hK) GS.nil) ?_
  conv => arg 6; whnf
  with_reducible
   refine' xs_if0 ?_
   refine ts_cmp rfl ?_
   walk_at "s8"
   refine attr_vec_kind (aV_kind (by assumption)) ?_
   refine ev_tuple_a ?_
   refine' es_s ?_
   refine' es_s ?_
   refine' es_s1 ?_
   walk_at "s18"
   refine ⟨_, TupOf.d rfl, ?_⟩
   refine' cmp_in (T := "") ?h1_1 ?h2_1 ?hd_1 ?ha_1 (.inr rfl) ?_; (case ha_1 => first | exact .inl rfl | exact .inr rfl); (case h1_1 => walk_at "lay"); (case h2_1 => walk_at "lay"); (case hd_1 => walk_at "lay")
   walk_at "s14"
   refine xs_cons ?_
   refine' ex_raise ?w_2 ?l_2 (fun _ => rfl) ?_; (case w_2 => exact refOk (by assumption)); (case l_2 => walk_at "lk")
   refine ev_cstr ?_
   walk_at "s10"
  exact k
theorem c_negate_w (hK : cx.K = HK P) {kk : Str} {n : Int} {a : AV} (hk : kk = "integer" ∨ kk = "logical") (k : K (.vec "integer" [.int (0 - n)]) σ) : CalTo cx (r + 3) KE (.fn "negate") [.vec kk [.int n], a] σ K := by
  have kn : Kn kk := hk.elim .inl fun h => .inr (.inr (.inl h))
  have nc : kk ≠ "character" := by rcases hk with rfl | rfl <;> decide +kernel
  have nd : (kk == ("double" : Str)) = false := by rcases hk with rfl | rfl <;> decide +kernel
  refine go2 "v" "notes" [("items", .undef)] [("check_unary", .fn "check_unary"), ("keep_all", .fn "keep_all"), ("Vector", .fn "Vector")] rfl hK (fo_negate _) (by decide +kernel) (GS.cons (gv_check_unary hK) (GS.cons (gv_keep_all hK) (GS.cons (gv_Vector hK) GS.nil))) ?_
  conv => arg 6; whnf
  with_reducible
   refine' xs_do (fun _ => rfl) ?_
   walk_at "s0"
   walk_at "s1"
   apply c_check_unary; iterate 3 walk_at "side"
   refine' xs_if0 ?_
   refine' ts_cmp_s rfl ?_
   walk_at "s8"
   refine attr_vec_kind (aV_kind (by assumption)) ?_
   refine cmp_eq_str ?_
   walk_at "s24"
   refine xs_cons ?_
  refine' ex_comp_d (cap := []) (gl' := []) rfl (fun _ _ => rfl) ?hok (Caps.nil) (GS.nil) ?hy ?hl ?hnl ?_
  case hok => kernel_rfl
  case hy => rfl
  case hl => rfl
  case hnl => decide +kernel
  with_reducible
   refine ie_seq ?_
   walk_at "s8"
   refine attr_vec_items (aV_items (by assumption)) ?_
   refine ⟨_, _, .dl rfl, .inr rfl, ?_⟩
   walk_at "s17"
  refine cp_cons ?_
  with_reducible
   refine ev_ifexp ?_
   walk_at "s15"
   refine ways_f rfl ?_
   refine ev_bin ?_
   refine ev_cint ?_
   walk_at "s5"
   refine bin_sub ?_
  refine cp_nil ?_
  with_reducible
   refine ⟨_, rfl, ?_⟩
   walk_at "s6"
   refine' xs_ret ?_
   walk_at "s0"
   walk_at "s3"
   walk_at "s19"
   walk_at "s0"
   refine' es_s ?_
   walk_at "s1"
   apply c_Vector; iterate 1 walk_at "side"
   apply c_keep_all; iterate 1 walk_at "side"
   walk_at "s10"
  exact k
theorem c_negate_d (hK : cx.K = HK P) {n d : Int} {a : AV} (k : K (.vec "double" [.tuple [.int (-n), .int d]]) σ) : CalTo cx (r + 3) KE (.fn "negate") [.vec "double" [.tuple [.int n, .int d]], a] σ K := by
  have kn : Kn "double" := .inr (.inl rfl)
  have nc : ("double" : Str) ≠ "character" := by decide +kernel
  refine go2 "v" "notes" [("items", .undef)] [("check_unary", .fn "check_unary"), ("keep_all", .fn "keep_all"), ("Vector", .fn "Vector")] rfl hK (fo_negate _) (by decide +kernel) (GS.cons (gv_check_unary hK) (GS.cons (gv_keep_all hK) (GS.cons (gv_Vector hK) GS.nil))) ?_
  conv => arg 6; whnf
  with_reducible
   refine' xs_do (fun _ => rfl) ?_
   walk_at "s0"
   walk_at "s1"
   apply c_check_unary; iterate 3 walk_at "side"
   refine' xs_if0 ?_
   refine' ts_cmp_s rfl ?_
   walk_at "s8"
   refine attr_vec_kind (aV_kind (by assumption)) ?_
   refine cmp_eq_str ?_
   walk_at "s14"
   refine' xs_ret ?_
   walk_at "s0"
   walk_at "s3"
   walk_at "s19"
   walk_at "s0"
   refine' es_s ?_
   walk_at "s19"
  refine' ev_comp_d (cap := []) (gl' := [("neg", .fn "neg")]) rfl (fun _ _ => rfl) ?hok (Caps.nil) (GS.cons (gv_neg hK) GS.nil) ?_
  case hok => kernel_rfl
  with_reducible
   refine ie_seq ?_
   walk_at "s8"
   refine attr_vec_items (aV_items (by assumption)) ?_
   refine ⟨_, _, .dl rfl, .inr rfl, ?_⟩
   walk_at "s17"
  refine cp_cons ?_
  with_reducible
   walk_at "s0"
   walk_at "s1"
   apply c_neg; iterate 1 walk_at "side"
  refine cp_nil ?_
  with_reducible
   refine ⟨_, rfl, ?_⟩
   apply c_Vector; iterate 1 walk_at "side"
   apply c_keep_all; iterate 1 walk_at "side"
   walk_at "s10"
  exact k
theorem c_negate_c (hK : cx.K = HK P) {x : List PyData} {a : AV} (k : KE σ) : CalTo cx (r + 3) KE (.fn "negate") [.vec "character" x, a] σ K := by
  refine go2 "v" "notes" [("items", .undef)] [("check_unary", .fn "check_unary"), ("keep_all", .fn "keep_all"), ("Vector", .fn "Vector")] rfl hK (fo_negate _) (by decide +kernel) (GS.cons (gv_check_unary hK) (GS.cons (gv_keep_all hK) (GS.cons (gv_Vector hK) GS.nil))) ?_
  conv => arg 6; whnf
  with_reducible
   refine' xs_do (fun _ => rfl) ?_
   walk_at "s0"
   walk_at "s1"
   apply c_check_unary_c; iterate 1 walk_at "side"
   walk_at "s10"
  exact k
theorem c_holds (hK : cx.K = HK P) {op : Str} {o : Int} (ho : op = "==" ∨ op = "!=" ∨ op = "<" ∨ op = ">=") (k : K (I (hold op o)) σ) : CalTo cx (r + 1) KE (.fn "holds") [S op, I o] σ K := by
  have kt : holdB op o = true → K (I 1) σ := fun h => by rw [hold, h] at k; exact k
  have kf : holdB op o = false → K (I 0) σ := fun h => by rw [hold, h] at k; exact k
  refine go2 "op" "order" [("found", .undef)] [] rfl hK (fo_holds _) (by decide +kernel) (GS.nil) ?_
  conv => arg 6; whnf
  rcases ho with rfl | rfl | rfl | rfl
  · with_reducible
     refine' xs_if0 ?_
     walk_at "s15"
     refine ways_f rfl ?_
     refine' xs_if ?_
     walk_at "s20"
     walk_at "s14"
     walk_at "s16"
     refine ev_cmp rfl ?_
     walk_at "s5"
     refine ev_cint ?_
     refine cmp_eq_int ?_
     walk_at "s6"
     refine xs_nil ?_
     refine' xs_ret ?_
     refine ev_ifexp ?_
     refine' ts_l ?l_1 ?u_1 ?_; (case l_1 => walk_at "lk"); (case u_1 => walk_at "und")
     refine tru_bool ?_
    exact ⟨fun h => (by ((with_reducible refine ev_cint ?_; walk_at "s10")); exact kt h), fun h => (by ((with_reducible refine ev_cint ?_; walk_at "s10")); exact kf h)⟩
  · with_reducible
     refine' xs_if0 ?_
     walk_at "s15"
     refine ways_f rfl ?_
     refine' xs_if ?_
     walk_at "s20"
     walk_at "s9"
     refine' xs_if ?_
     walk_at "s20"
     walk_at "s14"
     walk_at "s16"
     refine ev_cmp rfl ?_
     walk_at "s5"
     refine ev_cint ?_
     refine cmp_ne_int ?_
     walk_at "s6"
     refine xs_nil ?_
     refine xs_nil ?_
     refine' xs_ret ?_
     refine ev_ifexp ?_
     refine' ts_l ?l_2 ?u_2 ?_; (case l_2 => walk_at "lk"); (case u_2 => walk_at "und")
     refine tru_bool ?_
    exact ⟨fun h => (by ((with_reducible refine ev_cint ?_; walk_at "s10")); exact kt h), fun h => (by ((with_reducible refine ev_cint ?_; walk_at "s10")); exact kf h)⟩
  · with_reducible
     refine' xs_if0 ?_
     walk_at "s15"
     refine ways_f rfl ?_
     refine' xs_if ?_
     walk_at "s20"
     walk_at "s9"
     refine' xs_if ?_
     walk_at "s20"
     walk_at "s9"
     refine' xs_if ?_
     walk_at "s20"
     walk_at "s14"
     walk_at "s16"
     refine ev_cmp rfl ?_
     walk_at "s5"
     refine ev_cint ?_
     refine cmp_lt_int ?_
     walk_at "s6"
     refine xs_nil ?_
     refine xs_nil ?_
     refine xs_nil ?_
     refine' xs_ret ?_
     refine ev_ifexp ?_
     refine' ts_l ?l_3 ?u_3 ?_; (case l_3 => walk_at "lk"); (case u_3 => walk_at "und")
     refine tru_bool ?_
    exact ⟨fun h => (by ((with_reducible refine ev_cint ?_; walk_at "s10")); exact kt h), fun h => (by ((with_reducible refine ev_cint ?_; walk_at "s10")); exact kf h)⟩
  · with_reducible
     refine' xs_if0 ?_
     walk_at "s15"
     refine ways_f rfl ?_
     refine' xs_if ?_
     walk_at "s20"
     walk_at "s9"
     refine' xs_if ?_
     walk_at "s20"
     walk_at "s9"
     refine' xs_if ?_
     walk_at "s20"
     walk_at "s9"
     refine' xs_if ?_
     walk_at "s20"
     walk_at "s9"
     refine' xs_if ?_
     walk_at "s20"
     walk_at "s9"
     walk_at "s16"
     refine ev_cmp rfl ?_
     walk_at "s5"
     refine ev_cint ?_
     refine cmp_ge_int ?_
     walk_at "s6"
     refine xs_nil ?_
     refine xs_nil ?_
     refine xs_nil ?_
     refine xs_nil ?_
     refine xs_nil ?_
     refine' xs_ret ?_
     refine ev_ifexp ?_
     refine' ts_l ?l_4 ?u_4 ?_; (case l_4 => walk_at "lk"); (case u_4 => walk_at "und")
     refine tru_bool ?_
    exact ⟨fun h => (by ((with_reducible refine ev_cint ?_; walk_at "s10")); exact kt h), fun h => (by ((with_reducible refine ev_cint ?_; walk_at "s10")); exact kf h)⟩
theorem c_plain_order (hK : cx.K = HK P) {x y : Int} (k : K (I (cmpI x y)) σ) : CalTo cx (r + 1) KE (.fn "plain_order") [I x, I y] σ K := by
  refine go2 "a" "b" [] [] rfl hK (fo_plain_order _) (by decide +kernel) (GS.nil) ?_
  conv => arg 6; whnf
  with_reducible
   refine' xs_if0 ?_
   refine ts_bool ?_
   refine bs_or ?_
   walk_at "s15"
   refine ways_f rfl ?_
   refine bs_or ?_
   walk_at "s15"
   refine ways_f rfl ?_
   refine bs_or_nil ?_
   walk_at "s9"
   refine' xs_if0 ?_
   refine' ts_cmp_ll ?l_1 ?u_1 ?l2_1 ?u2_1 rfl ?_; (case l_1 => walk_at "lk"); (case u_1 => walk_at "und"); (case l2_1 => walk_at "lk"); (case u2_1 => walk_at "und")
   refine cmp_eq_int ?_
  refine ⟨fun h => ?_, fun h => ?_⟩
  · with_reducible
     refine' xs_ret_i ?_
     walk_at "s10"
    rw [cmpI, if_pos (by simpa using h)] at k; exact k
  · have h : ¬ x = y := by simpa using h
    rw [cmpI, if_neg h] at k
    with_reducible
     refine' xs_ret ?_
     refine ev_ifexp ?_
     refine' ts_cmp_ll ?l_2 ?u_2 ?l2_2 ?u2_2 rfl ?_; (case l_2 => walk_at "lk"); (case u_2 => walk_at "und"); (case l2_2 => walk_at "lk"); (case u2_2 => walk_at "und")
     refine cmp_lt_int ?_
    refine ⟨fun h => ?_, fun h => ?_⟩
    · with_reducible
       refine ev_neg ?_
       refine ev_cint ?_
       refine ⟨_, rfl, ?_⟩
       walk_at "s10"
      rw [if_pos (by simpa using h)] at k; exact k
    · with_reducible
       refine ev_cint ?_
       walk_at "s10"
      rw [if_neg (by simpa using h)] at k; exact k
theorem c_comparable (hK : cx.K = HK P) {op kk : Str} {x : List PyData} (hk : Kn kk) (k : K (.vec kk x) σ) : CalTo cx (r + 1) KE (.fn "comparable") [S op, .vec kk x, N] σ K := by
  refine go3 "op" "v" "show" [] [("Vector", .fn "Vector"), ("Refusal", .fn "Refusal")] rfl hK (fo_comparable _) (by decide +kernel) (GS.cons (gv_Vector hK) (GS.cons (gv_Refusal hK) GS.nil)) ?_
  conv => arg 6; whnf
  rcases hk with rfl | rfl | rfl | rfl
  · with_reducible
     refine' xs_if0 ?_
     refine' ts_cmp_s rfl ?_
     walk_at "s8"
     refine attr_vec_kind (aV_kind (by assumption)) ?_
     refine cmp_eq_str ?_
     walk_at "s9"
     refine' xs_if0 ?_
     refine ts_bool ?_
     refine bs_and ?_
     refine' ts_cmp_s rfl ?_
     walk_at "s8"
     refine attr_vec_kind (aV_kind (by assumption)) ?_
     refine cmp_eq_str ?_
     walk_at "s9"
     walk_at "s9"
     refine' xs_if0 ?_
     refine' ts_cmp_s rfl ?_
     walk_at "s8"
     refine attr_vec_kind (aV_kind (by assumption)) ?_
     refine cmp_eq_str ?_
     walk_at "s9"
     refine' xs_if0 ?_
     refine ts_cmp rfl ?_
     walk_at "s8"
     refine attr_vec_kind (aV_kind (by assumption)) ?_
     refine ev_tuple_a ?_
     refine' es_s ?_
     refine' es_s ?_
     refine' es_s ?_
     refine' es_s1 ?_
     walk_at "s18"
     refine ⟨_, TupOf.d rfl, ?_⟩
     walk_at "s4"
     walk_at "s14"
     walk_at "s22"
     walk_at "s10"
    exact k
  · with_reducible
     refine' xs_if0 ?_
     refine' ts_cmp_s rfl ?_
     walk_at "s8"
     refine attr_vec_kind (aV_kind (by assumption)) ?_
     refine cmp_eq_str ?_
     walk_at "s9"
     refine' xs_if0 ?_
     refine ts_bool ?_
     refine bs_and ?_
     refine' ts_cmp_s rfl ?_
     walk_at "s8"
     refine attr_vec_kind (aV_kind (by assumption)) ?_
     refine cmp_eq_str ?_
     walk_at "s9"
     walk_at "s9"
     refine' xs_if0 ?_
     refine' ts_cmp_s rfl ?_
     walk_at "s8"
     refine attr_vec_kind (aV_kind (by assumption)) ?_
     refine cmp_eq_str ?_
     walk_at "s9"
     refine' xs_if0 ?_
     refine ts_cmp rfl ?_
     walk_at "s8"
     refine attr_vec_kind (aV_kind (by assumption)) ?_
     refine ev_tuple_a ?_
     refine' es_s ?_
     refine' es_s ?_
     refine' es_s ?_
     refine' es_s1 ?_
     walk_at "s18"
     refine ⟨_, TupOf.d rfl, ?_⟩
     walk_at "s4"
     walk_at "s14"
     walk_at "s22"
     walk_at "s10"
    exact k
  · with_reducible
     refine' xs_if0 ?_
     refine' ts_cmp_s rfl ?_
     walk_at "s8"
     refine attr_vec_kind (aV_kind (by assumption)) ?_
     refine cmp_eq_str ?_
     walk_at "s9"
     refine' xs_if0 ?_
     refine ts_bool ?_
     refine bs_and ?_
     refine' ts_cmp_s rfl ?_
     walk_at "s8"
     refine attr_vec_kind (aV_kind (by assumption)) ?_
     refine cmp_eq_str ?_
     walk_at "s9"
     walk_at "s9"
     refine' xs_if0 ?_
     refine' ts_cmp_s rfl ?_
     walk_at "s8"
     refine attr_vec_kind (aV_kind (by assumption)) ?_
     refine cmp_eq_str ?_
     walk_at "s9"
     refine' xs_if0 ?_
     refine ts_cmp rfl ?_
     walk_at "s8"
     refine attr_vec_kind (aV_kind (by assumption)) ?_
     refine ev_tuple_a ?_
     refine' es_s ?_
     refine' es_s ?_
     refine' es_s ?_
     refine' es_s1 ?_
     walk_at "s18"
     refine ⟨_, TupOf.d rfl, ?_⟩
     walk_at "s4"
     walk_at "s14"
     walk_at "s22"
     walk_at "s10"
    exact k
  · with_reducible
     refine' xs_if0 ?_
     refine' ts_cmp_s rfl ?_
     walk_at "s8"
     refine attr_vec_kind (aV_kind (by assumption)) ?_
     refine cmp_eq_str ?_
     walk_at "s9"
     refine' xs_if0 ?_
     refine ts_bool ?_
     refine bs_and ?_
     refine' ts_cmp_s rfl ?_
     walk_at "s8"
     refine attr_vec_kind (aV_kind (by assumption)) ?_
     refine cmp_eq_str ?_
     walk_at "s9"
     walk_at "s9"
     refine' xs_if0 ?_
     refine' ts_cmp_s rfl ?_
     walk_at "s8"
     refine attr_vec_kind (aV_kind (by assumption)) ?_
     refine cmp_eq_str ?_
     walk_at "s9"
     refine' xs_if0 ?_
     refine ts_cmp rfl ?_
     walk_at "s8"
     refine attr_vec_kind (aV_kind (by assumption)) ?_
     refine ev_tuple_a ?_
     refine' es_s ?_
     refine' es_s ?_
     refine' es_s ?_
     refine' es_s1 ?_
     walk_at "s18"
     refine ⟨_, TupOf.d rfl, ?_⟩
     walk_at "s4"
     walk_at "s14"
     walk_at "s22"
     walk_at "s10"
    exact k
theorem c_double_items_compare_w (hK : cx.K = HK P) {kk : Str} {n : Int} (hk : kk = "integer" ∨ kk = "logical") (k : K (.d (.list [.tuple [.int n, .int 1]])) σ) : CalTo cx (r + 4) KE (.fn "double_items_compare") [.vec kk [.int n]] σ K := by
  have nd : (kk == ("double" : Str)) = false := by rcases hk with rfl | rfl <;> decide +kernel
  refine go1 "v" [] [] rfl hK (fo_double_items_compare _) (by decide +kernel) (GS.nil) ?_
  conv => arg 6; whnf
  with_reducible
   refine' xs_if0 ?_
   refine' ts_cmp_s rfl ?_
   walk_at "s8"
   refine attr_vec_kind (aV_kind (by assumption)) ?_
   refine cmp_eq_str ?_
   walk_at "s24"
   refine' xs_ret ?_
  refine' ev_comp_d (cap := []) (gl' := [("from_int", .fn "from_int")]) rfl (fun _ _ => rfl) ?hok (Caps.nil) (GS.cons (gv_from_int hK) GS.nil) ?_
  case hok => kernel_rfl
  with_reducible
   refine ie_seq ?_
   walk_at "s8"
   refine attr_vec_items (aV_items (by assumption)) ?_
   refine ⟨_, _, .dl rfl, .inr rfl, ?_⟩
   walk_at "s17"
  refine cp_cons ?_
  with_reducible
   walk_at "s0"
   walk_at "s1"
   apply c_from_int; iterate 1 walk_at "side"
  refine cp_nil ?_
  with_reducible
   refine ⟨_, rfl, ?_⟩
   walk_at "s10"
  exact k
theorem c_double_items_compare_d (hK : cx.K = HK P) {x : PyData} (k : K (.d (.list [x])) σ) : CalTo cx (r + 4) KE (.fn "double_items_compare") [.vec "double" [x]] σ K := by
  refine go1 "v" [] [] rfl hK (fo_double_items_compare _) (by decide +kernel) (GS.nil) ?_
  conv => arg 6; whnf
  with_reducible
   refine' xs_if0 ?_
   refine' ts_cmp_s rfl ?_
   walk_at "s8"
   refine attr_vec_kind (aV_kind (by assumption)) ?_
   refine cmp_eq_str ?_
   walk_at "s14"
   refine' xs_ret ?_
   walk_at "s8"
   refine attr_vec_items (aV_items (by assumption)) ?_
   walk_at "s10"
  exact k
theorem c_double_items_compare (hK : cx.K = HK P) {u : Lf} (hu : u ≠ .c) (k : K (.d (.list [.tuple [.int u.pn, .int u.pd]])) σ) : CalTo cx (r + 4) KE (.fn "double_items_compare") [V u] σ K :=
  match u, hu, k with
  | .w false _, _, k => c_double_items_compare_w hK (.inl rfl) k
  | .w true _, _, k => c_double_items_compare_w hK (.inr rfl) k
  | .d _ _, _, k => c_double_items_compare_d hK k
  | .c, hu, _ => absurd rfl hu
theorem c_compare_op_i (hK : cx.K = HK P) {op k1 k2 : Str} {a b : Int} {na : Addr} (ho : op = "==" ∨ op = "!=" ∨ op = "<" ∨ op = ">=") (h1 : k1 = "integer" ∨ k1 = "logical") (h2 : k2 = "integer" ∨ k2 = "logical")
    (k : K (.vec "logical" [.int (hold op (cmpI a b))]) ((na, []) :: σ)) : CalTo cx (r + 6) KE (.fn "compare_op") [S op, .vec k1 [.int a], .vec k2 [.int b], .lref na] ((na, []) :: σ) K := by
  have kn1 : Kn k1 := h1.elim .inl fun h => .inr (.inr (.inl h))
  have kn2 : Kn k2 := h2.elim .inl fun h => .inr (.inr (.inl h))
  have nc1 : (k1 == ("character" : Str)) = false := by rcases h1 with rfl | rfl <;> decide +kernel
  have nc2 : (k2 == ("character" : Str)) = false := by rcases h2 with rfl | rfl <;> decide +kernel
  have nd1 : (k1 == ("double" : Str)) = false := by rcases h1 with rfl | rfl <;> decide +kernel
  have nd2 : (k2 == ("double" : Str)) = false := by rcases h2 with rfl | rfl <;> decide +kernel
  refine go4d "op" "u" "v" "notes" "show" [("one", .undef), ("other", .undef), ("n", .undef), ("left", .undef), ("right", .undef), ("order", .undef), ("items", .undef), ("result", .undef)] [("comparable", .fn "comparable"), ("common_length", .fn "common_length"), ("plain_order", .fn "plain_order"), ("double_items_compare", .fn "double_items_compare"), ("compare", .fn "compare"), ("range", .cv (.type "range")), ("Vector", .fn "Vector"), ("shape_attrs", .fn "shape_attrs")] rfl hK (fo_compare_op _) (by decide +kernel) (GS.cons (gv_comparable hK) (GS.cons (gv_common_length hK) (GS.cons (gv_plain_order hK) (GS.cons (gv_double_items_compare hK) (GS.cons (gv_compare hK) (GS.cons (gvb_range hK) (GS.cons (gv_Vector hK) (GS.cons (gv_shape_attrs hK) GS.nil)))))))) ?_
  conv => arg 6; whnf
  with_reducible
   walk_at "s16"
   walk_at "s0"
   walk_at "s3"
   walk_at "s3"
   walk_at "s1"
   apply c_comparable; iterate 2 walk_at "side"
   walk_at "s6"
   walk_at "s16"
   walk_at "s0"
   walk_at "s3"
   walk_at "s3"
   walk_at "s1"
   apply c_comparable; iterate 2 walk_at "side"
   walk_at "s6"
   walk_at "s16"
   walk_at "s0"
   walk_at "s3"
   walk_at "s3"
   walk_at "s1"
   apply c_common_length; iterate 3 walk_at "side"
   walk_at "s6"
   refine' xs_if ?_
   refine ts_bool ?_
   refine bs_or ?_
   refine' ts_cmp_s rfl ?_
   walk_at "s8"
   refine attr_vec_kind (aV_kind (by assumption)) ?_
   refine cmp_eq_str ?_
   walk_at "s24"
   refine bs_or ?_
   refine' ts_cmp_s rfl ?_
   walk_at "s8"
   refine attr_vec_kind (aV_kind (by assumption)) ?_
   refine cmp_eq_str ?_
   walk_at "s24"
   refine bs_or_nil ?_
   walk_at "s9"
   refine' xs_if ?_
   refine ts_bool ?_
   refine bs_or ?_
   refine' ts_cmp_s rfl ?_
   walk_at "s8"
   refine attr_vec_kind (aV_kind (by assumption)) ?_
   refine cmp_eq_str ?_
   walk_at "s24"
   refine bs_or ?_
   refine' ts_cmp_s rfl ?_
   walk_at "s8"
   refine attr_vec_kind (aV_kind (by assumption)) ?_
   refine cmp_eq_str ?_
   walk_at "s24"
   refine bs_or_nil ?_
   walk_at "s9"
   walk_at "s16"
   walk_at "s8"
   refine attr_vec_items (aV_items (by assumption)) ?_
   walk_at "s6"
   walk_at "s16"
   walk_at "s8"
   refine attr_vec_items (aV_items (by assumption)) ?_
   walk_at "s6"
   walk_at "s16"
   refine' ev_global ?h_1 ?_; (case h_1 => walk_at "lk")
   walk_at "s6"
   refine xs_nil ?_
   refine xs_nil ?_
   refine xs_cons ?_
  refine' ex_comp_d (cap := [("op", _), ("order", _), ("left", _), ("right", _)]) (gl' := [("holds", .fn "holds"), ("len", .cv (.builtin "len"))]) rfl (fun _ _ => rfl) ?hok (Caps.cons (by walk_at "lk") (Caps.cons (by walk_at "lk") (Caps.cons (by walk_at "lk") (Caps.cons (by walk_at "lk") (Caps.nil))))) (GS.cons (gv_holds hK) (GS.cons (gvb_len hK) GS.nil)) ?hy ?hl ?hnl ?_
  case hok => kernel_rfl
  case hy => rfl
  case hl => rfl
  case hnl => decide +kernel
  with_reducible
   refine ie_rng ?_
   walk_at "s0"
   walk_at "s1"
   refine bl_range ?_
   refine ⟨_, rfl, by decide, by decide, ?_⟩
   walk_at "s18"
  refine cp_cons ?_
  with_reducible
   walk_at "s0"
   walk_at "s3"
   walk_at "s19"
   refine ev_call (fun _ => rfl) (fun _ => rfl) ?_
   walk_at "s5"
   refine es_cons (fun _ => rfl) ?_
   refine ev_sub (fun _ _ => ⟨_, rfl⟩) ?_
   walk_at "s5"
   refine' ev_bin_l ?l_2 ?u_2 ?_; (case l_2 => walk_at "lk"); (case u_2 => walk_at "und")
   walk_at "s0"
   walk_at "s1"
   refine bl_len (.dl rfl) (.inr rfl) (by exact Nat.le_of_ble_eq_true rfl) ?_
   refine bin_mod (by first | assumption | omega | exact of_decide_eq_true rfl) ?_
   walk_at "s23"
   walk_at "s19"
   refine ev_sub (fun _ _ => ⟨_, rfl⟩) ?_
   walk_at "s5"
   refine' ev_bin_l ?l_3 ?u_3 ?_; (case l_3 => walk_at "lk"); (case u_3 => walk_at "und")
   walk_at "s0"
   walk_at "s1"
   refine bl_len (.dl rfl) (.inr rfl) (by exact Nat.le_of_ble_eq_true rfl) ?_
   refine bin_mod (by first | assumption | omega | exact of_decide_eq_true rfl) ?_
   walk_at "s23"
   apply c_plain_order; iterate 1 walk_at "side"
   apply c_holds; iterate 2 walk_at "side"
  refine cp_nil ?_
  with_reducible
   refine ⟨_, rfl, ?_⟩
   walk_at "s6"
   walk_at "s16"
   walk_at "s0"
   refine' es_s ?_
   walk_at "s1"
   apply c_Vector; iterate 1 walk_at "side"
   walk_at "s6"
   refine' xs_do (fun _ => rfl) ?_
   walk_at "s0"
   walk_at "s3"
   walk_at "s3"
   walk_at "s1"
   apply c_shape_attrs; iterate 3 walk_at "side"
   walk_at "s22"
   walk_at "s10"
  exact k
theorem c_compare_op_d (hK : cx.K = HK P) {op : Str} {u v : Lf} {na : Addr} (ho : op = "==" ∨ op = "!=" ∨ op = "<" ∨ op = ">=") (hu : u ≠ .c) (hv : v ≠ .c) (hd : (u.kd == ("double" : Str) || v.kd == ("double" : Str)) = true)
    (pd : 0 < u.pd) (pe : 0 < v.pd) (s1 : Sz 9000 u.pn) (s2 : Sz 9000 u.pd) (s3 : Sz 9000 v.pn) (s4 : Sz 9000 v.pd)
    (k : K (.vec "logical" [.int (hold op (cmpI (u.pn * v.pd) (v.pn * u.pd)))]) ((na, []) :: σ)) : CalTo cx (r + 6) KE (.fn "compare_op") [S op, V u, V v, .lref na] ((na, []) :: σ) K := by
  have kn1 := u.kn
  have kn2 := v.kn
  have nc1 : (u.kd == ("character" : Str)) = false := beq_eq_false_iff_ne.mpr (Lf.nc hu)
  have nc2 : (v.kd == ("character" : Str)) = false := beq_eq_false_iff_ne.mpr (Lf.nc hv)
  refine go4d "op" "u" "v" "notes" "show" [("one", .undef), ("other", .undef), ("n", .undef), ("left", .undef), ("right", .undef), ("order", .undef), ("items", .undef), ("result", .undef)] [("comparable", .fn "comparable"), ("common_length", .fn "common_length"), ("plain_order", .fn "plain_order"), ("double_items_compare", .fn "double_items_compare"), ("compare", .fn "compare"), ("range", .cv (.type "range")), ("Vector", .fn "Vector"), ("shape_attrs", .fn "shape_attrs")] rfl hK (fo_compare_op _) (by decide +kernel) (GS.cons (gv_comparable hK) (GS.cons (gv_common_length hK) (GS.cons (gv_plain_order hK) (GS.cons (gv_double_items_compare hK) (GS.cons (gv_compare hK) (GS.cons (gvb_range hK) (GS.cons (gv_Vector hK) (GS.cons (gv_shape_attrs hK) GS.nil)))))))) ?_
  conv => arg 6; whnf
  with_reducible
   walk_at "s16"
   walk_at "s0"
   walk_at "s3"
   walk_at "s3"
   walk_at "s1"
   apply c_comparable; iterate 2 walk_at "side"
   walk_at "s6"
   walk_at "s16"
   walk_at "s0"
   walk_at "s3"
   walk_at "s3"
   walk_at "s1"
   apply c_comparable; iterate 2 walk_at "side"
   walk_at "s6"
   walk_at "s16"
   walk_at "s0"
   walk_at "s3"
   walk_at "s3"
   walk_at "s1"
   apply c_common_length; iterate 3 walk_at "side"
   walk_at "s6"
   refine' xs_if ?_
   refine ts_bool ?_
   refine bs_or ?_
   refine' ts_cmp_s rfl ?_
   walk_at "s8"
   refine attr_vec_kind (aV_kind (by assumption)) ?_
   refine cmp_eq_str ?_
   walk_at "s24"
   refine bs_or ?_
   refine' ts_cmp_s rfl ?_
   walk_at "s8"
   refine attr_vec_kind (aV_kind (by assumption)) ?_
   refine cmp_eq_str ?_
   walk_at "s24"
   refine bs_or_nil ?_
   walk_at "s9"
   refine' xs_if ?_
   refine ts_bool ?_
   refine bs_or ?_
   refine' ts_cmp_s rfl ?_
   walk_at "s8"
   refine attr_vec_kind (aV_kind (by assumption)) ?_
   refine cmp_eq_str ?_
  refine ⟨fun h => ?_, fun h => ?_⟩
  · with_reducible
     walk_at "s14"
     walk_at "s16"
     walk_at "s0"
     walk_at "s1"
     apply c_double_items_compare; iterate 2 walk_at "side"
     walk_at "s6"
     walk_at "s16"
     walk_at "s0"
     walk_at "s1"
     apply c_double_items_compare; iterate 2 walk_at "side"
     walk_at "s6"
     walk_at "s16"
     refine' ev_global ?h_1 ?_; (case h_1 => walk_at "lk")
     walk_at "s6"
     refine xs_nil ?_
     refine xs_nil ?_
     refine xs_cons ?_
    refine' ex_comp_d (cap := [("op", _), ("order", _), ("left", _), ("right", _)]) (gl' := [("holds", .fn "holds"), ("len", .cv (.builtin "len"))]) rfl (fun _ _ => rfl) ?hok (Caps.cons (by walk_at "lk") (Caps.cons (by walk_at "lk") (Caps.cons (by walk_at "lk") (Caps.cons (by walk_at "lk") (Caps.nil))))) (GS.cons (gv_holds hK) (GS.cons (gvb_len hK) GS.nil)) ?hy ?hl ?hnl ?_
    case hok => kernel_rfl
    case hy => rfl
    case hl => rfl
    case hnl => decide +kernel
    with_reducible
     refine ie_rng ?_
     walk_at "s0"
     walk_at "s1"
     refine bl_range ?_
     refine ⟨_, rfl, by decide, by decide, ?_⟩
     walk_at "s18"
    refine cp_cons ?_
    with_reducible
     walk_at "s0"
     walk_at "s3"
     walk_at "s19"
     refine ev_call (fun _ => rfl) (fun _ => rfl) ?_
     walk_at "s5"
     refine es_cons (fun _ => rfl) ?_
     refine ev_sub (fun _ _ => ⟨_, rfl⟩) ?_
     walk_at "s5"
     refine' ev_bin_l ?l_2 ?u_2 ?_; (case l_2 => walk_at "lk"); (case u_2 => walk_at "und")
     walk_at "s0"
     walk_at "s1"
     refine bl_len (.dl rfl) (.inr rfl) (by exact Nat.le_of_ble_eq_true rfl) ?_
     refine bin_mod (by first | assumption | omega | exact of_decide_eq_true rfl) ?_
     walk_at "s23"
     walk_at "s19"
     refine ev_sub (fun _ _ => ⟨_, rfl⟩) ?_
     walk_at "s5"
     refine' ev_bin_l ?l_3 ?u_3 ?_; (case l_3 => walk_at "lk"); (case u_3 => walk_at "und")
     walk_at "s0"
     walk_at "s1"
     refine bl_len (.dl rfl) (.inr rfl) (by exact Nat.le_of_ble_eq_true rfl) ?_
     refine bin_mod (by first | assumption | omega | exact of_decide_eq_true rfl) ?_
     walk_at "s23"
     apply c_compare; iterate 7 walk_at "side"
     apply c_holds; iterate 2 walk_at "side"
    refine cp_nil ?_
    with_reducible
     refine ⟨_, rfl, ?_⟩
     walk_at "s6"
     walk_at "s16"
     walk_at "s0"
     refine' es_s ?_
     walk_at "s1"
     apply c_Vector; iterate 1 walk_at "side"
     walk_at "s6"
     refine' xs_do (fun _ => rfl) ?_
     walk_at "s0"
     walk_at "s3"
     walk_at "s3"
     walk_at "s1"
     apply c_shape_attrs; iterate 3 walk_at "side"
     walk_at "s22"
     walk_at "s10"
    exact k
  · have h' : (v.kd == ("double" : Str)) = true := by rw [h] at hd; exact hd
    with_reducible
     refine bs_or ?_
     refine' ts_cmp_s rfl ?_
     walk_at "s8"
     refine attr_vec_kind (aV_kind (by assumption)) ?_
     refine cmp_eq_str ?_
     refine ways_t (by with_reducible assumption) ?_
     walk_at "s14"
     walk_at "s16"
     walk_at "s0"
     walk_at "s1"
     apply c_double_items_compare; iterate 2 walk_at "side"
     walk_at "s6"
     walk_at "s16"
     walk_at "s0"
     walk_at "s1"
     apply c_double_items_compare; iterate 2 walk_at "side"
     walk_at "s6"
     walk_at "s16"
     refine' ev_global ?h_4 ?_; (case h_4 => walk_at "lk")
     walk_at "s6"
     refine xs_nil ?_
     refine xs_nil ?_
     refine xs_cons ?_
    refine' ex_comp_d (cap := [("op", _), ("order", _), ("left", _), ("right", _)]) (gl' := [("holds", .fn "holds"), ("len", .cv (.builtin "len"))]) rfl (fun _ _ => rfl) ?hok (Caps.cons (by walk_at "lk") (Caps.cons (by walk_at "lk") (Caps.cons (by walk_at "lk") (Caps.cons (by walk_at "lk") (Caps.nil))))) (GS.cons (gv_holds hK) (GS.cons (gvb_len hK) GS.nil)) ?hy ?hl ?hnl ?_
    case hok => kernel_rfl
    case hy => rfl
    case hl => rfl
    case hnl => decide +kernel
    with_reducible
     refine ie_rng ?_
     walk_at "s0"
     walk_at "s1"
     refine bl_range ?_
     refine ⟨_, rfl, by decide, by decide, ?_⟩
     walk_at "s18"
    refine cp_cons ?_
    with_reducible
     walk_at "s0"
     walk_at "s3"
     walk_at "s19"
     refine ev_call (fun _ => rfl) (fun _ => rfl) ?_
     walk_at "s5"
     refine es_cons (fun _ => rfl) ?_
     refine ev_sub (fun _ _ => ⟨_, rfl⟩) ?_
     walk_at "s5"
     refine' ev_bin_l ?l_5 ?u_5 ?_; (case l_5 => walk_at "lk"); (case u_5 => walk_at "und")
     walk_at "s0"
     walk_at "s1"
     refine bl_len (.dl rfl) (.inr rfl) (by exact Nat.le_of_ble_eq_true rfl) ?_
     refine bin_mod (by first | assumption | omega | exact of_decide_eq_true rfl) ?_
     walk_at "s23"
     walk_at "s19"
     refine ev_sub (fun _ _ => ⟨_, rfl⟩) ?_
     walk_at "s5"
     refine' ev_bin_l ?l_6 ?u_6 ?_; (case l_6 => walk_at "lk"); (case u_6 => walk_at "und")
     walk_at "s0"
     walk_at "s1"
     refine bl_len (.dl rfl) (.inr rfl) (by exact Nat.le_of_ble_eq_true rfl) ?_
     refine bin_mod (by first | assumption | omega | exact of_decide_eq_true rfl) ?_
     walk_at "s23"
     apply c_compare; iterate 7 walk_at "side"
     apply c_holds; iterate 2 walk_at "side"
    refine cp_nil ?_
    with_reducible
     refine ⟨_, rfl, ?_⟩
     walk_at "s6"
     walk_at "s16"
     walk_at "s0"
     refine' es_s ?_
     walk_at "s1"
     apply c_Vector; iterate 1 walk_at "side"
     walk_at "s6"
     refine' xs_do (fun _ => rfl) ?_
     walk_at "s0"
     walk_at "s3"
     walk_at "s3"
     walk_at "s1"
     apply c_shape_attrs; iterate 3 walk_at "side"
     walk_at "s22"
     walk_at "s10"
    exact k
theorem c_and_items (hK : cx.K = HK P) {a b : Int} (k : K (I (tr (a * b))) σ) : CalTo cx (r + 1) KE (.fn "and_items") [I (tr a), I (tr b)] σ K := by
  unfold tr at *
  refine go2 "a" "b" [] [] rfl hK (fo_and_items _) (by decide +kernel) (GS.nil) ?_
  conv => arg 6; whnf
  by_cases ha : a = 0
  · subst ha
    have k' : K (I 0) σ := by simpa using k
    with_reducible
     refine' xs_if0 ?_
     refine ts_bool ?_
     refine bs_or ?_
     refine' ts_eqi_l ?l_1 ?_; (case l_1 => walk_at "lk")
     walk_at "s14"
     walk_at "s14"
     refine' xs_ret_i ?_
     walk_at "s10"
    exact k'
  · by_cases hb : b = 0
    · subst hb
      simp only [if_neg ha]
      have k' : K (I 0) σ := by simpa using k
      with_reducible
       refine' xs_if0 ?_
       refine ts_bool ?_
       refine bs_or ?_
       refine' ts_eqi_l ?l_2 ?_; (case l_2 => walk_at "lk")
       walk_at "s9"
       refine bs_or ?_
       refine' ts_eqi_l ?l_3 ?_; (case l_3 => walk_at "lk")
       walk_at "s14"
       walk_at "s14"
       refine' xs_ret_i ?_
       walk_at "s10"
      exact k'
    · have : ¬ a * b = 0 := by simp [ha, hb]
      simp only [if_neg ha, if_neg hb]
      rw [if_neg this] at k
      with_reducible
       refine' xs_if0 ?_
       refine ts_bool ?_
       refine bs_or ?_
       refine' ts_eqi_l ?l_4 ?_; (case l_4 => walk_at "lk")
       walk_at "s9"
       refine bs_or ?_
       refine' ts_eqi_l ?l_5 ?_; (case l_5 => walk_at "lk")
       walk_at "s9"
       refine bs_or_nil ?_
       walk_at "s9"
       refine' xs_if0 ?_
       refine ts_bool ?_
       refine bs_or ?_
       walk_at "s15"
       walk_at "s9"
       refine bs_or ?_
       walk_at "s15"
       walk_at "s9"
       refine bs_or_nil ?_
       walk_at "s9"
       refine' xs_ret_i ?_
       walk_at "s10"
      exact k
noncomputable def trOr (a b : Int) : Int := if a = 0 then tr b else 1
theorem c_or_items (hK : cx.K = HK P) {a b : Int} (k : K (I (trOr a b)) σ) : CalTo cx (r + 1) KE (.fn "or_items") [I (tr a), I (tr b)] σ K := by
  unfold trOr tr at *
  refine go2 "a" "b" [] [] rfl hK (fo_or_items _) (by decide +kernel) (GS.nil) ?_
  conv => arg 6; whnf
  by_cases ha : a = 0
  · subst ha
    rw [if_pos rfl] at k
    by_cases hb : b = 0
    · subst hb
      with_reducible
       refine' xs_if0 ?_
       refine ts_bool ?_
       refine bs_or ?_
       refine' ts_eqi_l ?l_1 ?_; (case l_1 => walk_at "lk")
       walk_at "s9"
       refine bs_or ?_
       refine' ts_eqi_l ?l_2 ?_; (case l_2 => walk_at "lk")
       walk_at "s9"
       refine bs_or_nil ?_
       walk_at "s9"
       refine' xs_if0 ?_
       refine ts_bool ?_
       refine bs_or ?_
       walk_at "s15"
       walk_at "s9"
       refine bs_or ?_
       walk_at "s15"
       walk_at "s9"
       refine bs_or_nil ?_
       walk_at "s9"
       refine' xs_ret_i ?_
       walk_at "s10"
      exact k
    · simp only [if_neg hb] at *
      with_reducible
       refine' xs_if0 ?_
       refine ts_bool ?_
       refine bs_or ?_
       refine' ts_eqi_l ?l_3 ?_; (case l_3 => walk_at "lk")
       walk_at "s9"
       refine bs_or ?_
       refine' ts_eqi_l ?l_4 ?_; (case l_4 => walk_at "lk")
       walk_at "s14"
       walk_at "s14"
       refine' xs_ret_i ?_
       walk_at "s10"
      exact k
  · simp only [if_neg ha] at *
    with_reducible
     refine' xs_if0 ?_
     refine ts_bool ?_
     refine bs_or ?_
     refine' ts_eqi_l ?l_5 ?_; (case l_5 => walk_at "lk")
     walk_at "s14"
     walk_at "s14"
     refine' xs_ret_i ?_
     walk_at "s10"
    exact k
theorem c_not_item (hK : cx.K = HK P) {a : Int} (k : K (I (1 - a)) σ) : CalTo cx (r + 1) KE (.fn "not_item") [I a] σ K := by
  refine go1 "a" [] [] rfl hK (fo_not_item _) (by decide +kernel) (GS.nil) ?_
  conv => arg 6; whnf
  with_reducible
   refine' xs_if0 ?_
   walk_at "s15"
   refine ways_f rfl ?_
   refine' xs_ret ?_
   refine ev_bin ?_
   refine ev_cint ?_
   walk_at "s5"
   refine bin_sub ?_
   walk_at "s10"
  exact k
theorem c_truth_item_w (hK : cx.K = HK P) {kk : Str} {n : Int} (nd : (kk == ("double" : Str)) = false) (k : K (I (tr n)) σ) : CalTo cx (r + 2) KE (.fn "truth_item") [S kk, I n] σ K := by
  have kt : n ≠ 0 → K (I 1) σ := fun h => by rw [tr, if_neg h] at k; exact k
  have kf : n = 0 → K (I 0) σ := fun h => by rw [tr, if_pos h] at k; exact k
  refine go2 "kind" "item" [] [("is_na", .fn "is_na")] rfl hK (fo_truth_item _) (by decide +kernel) (GS.cons (gv_is_na hK) GS.nil) ?_
  conv => arg 6; whnf
  with_reducible
   refine' xs_if0 ?_
   walk_at "s20"
   walk_at "s24"
   refine' xs_if0 ?_
   walk_at "s15"
   refine ways_f rfl ?_
   refine' xs_ret ?_
   refine ev_ifexp ?_
   refine' ts_cmp_li ?l_1 ?u_1 rfl ?_; (case l_1 => walk_at "lk"); (case u_1 => walk_at "und")
   refine cmp_ne_int ?_
  exact ⟨fun h => (by ((with_reducible refine ev_cint ?_; walk_at "s10")); exact kt (by simpa using h)), fun h => (by ((with_reducible refine ev_cint ?_; walk_at "s10")); exact kf (by simpa using h))⟩
theorem c_truth_item_d (hK : cx.K = HK P) {n d : Int} (pd : 0 < d) (k : K (I (tr n)) σ) : CalTo cx (r + 2) KE (.fn "truth_item") [S "double", P2 n d] σ K := by
  have kt : n ≠ 0 → K (I 1) σ := fun h => by rw [tr, if_neg h] at k; exact k
  have kf : n = 0 → K (I 0) σ := fun h => by rw [tr, if_pos h] at k; exact k
  refine go2 "kind" "item" [] [("is_na", .fn "is_na")] rfl hK (fo_truth_item _) (by decide +kernel) (GS.cons (gv_is_na hK) GS.nil) ?_
  conv => arg 6; whnf
  with_reducible
   refine' xs_if0 ?_
   walk_at "s20"
   walk_at "s14"
   refine' xs_if0 ?_
   refine ts_value (fun _ _ => rfl) ?_
   walk_at "s0"
   walk_at "s1"
   apply c_is_na; iterate 2 walk_at "side"
   refine tru_bool ?_
   walk_at "s9"
   refine' xs_ret ?_
   refine ev_ifexp ?_
   refine' ts_cmp_i rfl ?_
   walk_at "s2"
   walk_at "s7"
   refine cmp_ne_int ?_
  exact ⟨fun h => (by ((with_reducible refine ev_cint ?_; walk_at "s10")); exact kt (by simpa using h)), fun h => (by ((with_reducible refine ev_cint ?_; walk_at "s10")); exact kf (by simpa using h))⟩
theorem c_truth_item (hK : cx.K = HK P) {u : Lf} (hu : u ≠ .c) (pd : 0 < u.pd) (k : K (I (tr u.pn)) σ) : CalTo cx (r + 2) KE (.fn "truth_item") [S u.kd, .d u.item] σ K :=
  match u, hu, pd, k with
  | .w false _, _, _, k => c_truth_item_w hK (kk := "integer") (by decide +kernel) k
  | .w true _, _, _, k => c_truth_item_w hK (kk := "logical") (by decide +kernel) k
  | .d _ _, _, pd, k => c_truth_item_d hK pd k
  | .c, hu, _, _ => absurd rfl hu
theorem c_truth_items (hK : cx.K = HK P) {u : Lf} (hu : u ≠ .c) (pd : 0 < u.pd) (k : K (.d (.list [.int (tr u.pn)])) σ) : CalTo cx (r + 3) KE (.fn "truth_items") [V u] σ K := by
  refine go1 "v" [] [] rfl hK (fo_truth_items _) (by decide +kernel) (GS.nil) ?_
  conv => arg 6; whnf
  with_reducible
   refine' xs_ret ?_
  refine' ev_comp_d (cap := [("v", _)]) (gl' := [("truth_item", .fn "truth_item")]) rfl (fun _ _ => rfl) ?hok (Caps.cons (by walk_at "lk") (Caps.nil)) (GS.cons (gv_truth_item hK) GS.nil) ?_
  case hok => kernel_rfl
  with_reducible
   refine ie_seq ?_
   walk_at "s8"
   refine attr_vec_items (aV_items (by assumption)) ?_
   refine ⟨_, _, .dl rfl, .inr rfl, ?_⟩
   walk_at "s17"
  refine cp_cons ?_
  with_reducible
   walk_at "s0"
   refine es_cons (fun _ => rfl) ?_
   walk_at "s8"
   refine attr_vec_kind (aV_kind (by assumption)) ?_
   walk_at "s1"
   apply c_truth_item; iterate 3 walk_at "side"
  refine cp_nil ?_
  with_reducible
   refine ⟨_, rfl, ?_⟩
   walk_at "s10"
  exact k
theorem c_logic_operand (hK : cx.K = HK P) {u : Lf} (hu : u ≠ .c) (pd : 0 < u.pd) (k : K (.d (.list [.int (tr u.pn)])) σ) : CalTo cx (r + 4) KE (.fn "logic_operand") [V u] σ K := by
  have h0 := u.kn.facts.null
  have h1 := u.kn.facts.lay
  have hin : (!([PyData.str "logical", .str "integer", .str "double"].any fun y => PyData.eqv y (.str u.kd))) = false := by
    have nc := Lf.nc hu
    rcases u.kn with e | e | e | e
    · rw [e]; decide +kernel
    · rw [e]; decide +kernel
    · rw [e]; decide +kernel
    · exact absurd e nc
  refine go1 "v" [] [("Refusal", .fn "Refusal"), ("truth_items", .fn "truth_items")] rfl hK (fo_logic_operand _) (by decide +kernel) (GS.cons (gv_Refusal hK) (GS.cons (gv_truth_items hK) GS.nil)) ?_
  conv => arg 6; whnf
  with_reducible
   refine' xs_if0 ?_
   refine' ts_cmp_s rfl ?_
   walk_at "s8"
   refine attr_vec_kind (aV_kind (by assumption)) ?_
   refine cmp_eq_str ?_
   walk_at "s24"
   refine' xs_if0 ?_
   refine ts_cmp rfl ?_
   walk_at "s8"
   refine attr_vec_kind (aV_kind (by assumption)) ?_
   refine ev_tuple_a ?_
   refine' es_s ?_
   refine' es_s ?_
   refine' es_s1 ?_
   walk_at "s18"
   refine ⟨_, TupOf.d rfl, ?_⟩
   refine' cmp_in (T := "") ?h1_1 ?h2_1 ?hd_1 ?ha_1 (.inr rfl) ?_; (case ha_1 => first | exact .inl rfl | exact .inr rfl); (case h1_1 => walk_at "lay"); (case h2_1 => walk_at "lay"); (case hd_1 => walk_at "lay")
   walk_at "s24"
   refine' xs_ret ?_
   walk_at "s0"
   walk_at "s1"
   apply c_truth_items; iterate 3 walk_at "side"
   walk_at "s10"
  exact k
theorem c_logic_operand_c (hK : cx.K = HK P) {x : List PyData} (k : KE σ) : CalTo cx (r + 4) KE (.fn "logic_operand") [.vec "character" x] σ K := by
  refine go1 "v" [] [("Refusal", .fn "Refusal"), ("truth_items", .fn "truth_items")] rfl hK (fo_logic_operand _) (by decide +kernel) (GS.cons (gv_Refusal hK) (GS.cons (gv_truth_items hK) GS.nil)) ?_
  conv => arg 6; whnf
  with_reducible
   refine' xs_if0 ?_
   refine' ts_cmp_s rfl ?_
   walk_at "s8"
   refine attr_vec_kind (aV_kind (by assumption)) ?_
   refine cmp_eq_str ?_
   walk_at "s9"
   refine' xs_if0 ?_
   refine ts_cmp rfl ?_
   walk_at "s8"
   refine attr_vec_kind (aV_kind (by assumption)) ?_
   refine ev_tuple_a ?_
   refine' es_s ?_
   refine' es_s ?_
   refine' es_s1 ?_
   walk_at "s18"
   refine ⟨_, TupOf.d rfl, ?_⟩
   refine' cmp_in (T := "") ?h1_1 ?h2_1 ?hd_1 ?ha_1 (.inr rfl) ?_; (case ha_1 => first | exact .inl rfl | exact .inr rfl); (case h1_1 => walk_at "lay"); (case h2_1 => walk_at "lay"); (case hd_1 => walk_at "lay")
   walk_at "s14"
   refine xs_cons ?_
   refine' ex_raise ?w_2 ?l_2 (fun _ => rfl) ?_; (case w_2 => exact refOk (by assumption)); (case l_2 => walk_at "lk")
   refine ev_cstr ?_
   walk_at "s10"
  exact k
theorem c_logic_and (hK : cx.K = HK P) {u v : Lf} {na : Addr} (hu : u ≠ .c) (hv : v ≠ .c) (pd : 0 < u.pd) (pe : 0 < v.pd) (k : K (.vec "logical" [.int (tr (u.pn * v.pn))]) ((na, []) :: σ)) :
    CalTo cx (r + 6) KE (.fn "logic_and") [V u, V v, .lref na] ((na, []) :: σ) K := by
  have kn1 := u.kn
  have kn2 := v.kn
  refine go3 "u" "v" "notes" [] [("logic_pairs", .fn "logic_pairs"), ("and_items", .fn "and_items")] rfl hK (fo_logic_and _) (by decide +kernel) (GS.cons (gv_logic_pairs hK) (GS.cons (gv_and_items hK) GS.nil)) ?_
  conv => arg 6; whnf
  with_reducible
   refine' xs_ret ?_
   walk_at "s0"
   walk_at "s3"
   walk_at "s3"
   walk_at "s3"
   walk_at "s19"
   refine' ev_global ?h_1 ?_; (case h_1 => walk_at "lk")
  refine go4 "u" "v" "notes" "item_op" [("left", .undef), ("right", .undef), ("n", .undef), ("items", .undef), ("result", .undef)] [("logic_operand", .fn "logic_operand"), ("common_length", .fn "common_length"), ("range", .cv (.type "range")), ("Vector", .fn "Vector"), ("shape_attrs", .fn "shape_attrs")] rfl hK (fo_logic_pairs _) (by decide +kernel) (GS.cons (gv_logic_operand hK) (GS.cons (gv_common_length hK) (GS.cons (gvb_range hK) (GS.cons (gv_Vector hK) (GS.cons (gv_shape_attrs hK) GS.nil))))) ?_
  conv => arg 6; whnf
  with_reducible
   walk_at "s16"
   walk_at "s0"
   walk_at "s1"
   apply c_logic_operand; iterate 3 walk_at "side"
   walk_at "s6"
   walk_at "s16"
   walk_at "s0"
   walk_at "s1"
   apply c_logic_operand; iterate 3 walk_at "side"
   walk_at "s6"
   walk_at "s16"
   walk_at "s0"
   walk_at "s3"
   walk_at "s3"
   walk_at "s1"
   apply c_common_length; iterate 3 walk_at "side"
   walk_at "s6"
   refine xs_cons ?_
  refine' ex_comp_d (cap := [("item_op", _), ("left", _), ("right", _)]) (gl' := [("len", .cv (.builtin "len"))]) rfl (fun _ _ => rfl) ?hok (Caps.cons (by walk_at "lk") (Caps.cons (by walk_at "lk") (Caps.cons (by walk_at "lk") (Caps.nil)))) (GS.cons (gvb_len hK) GS.nil) ?hy ?hl ?hnl ?_
  case hok => kernel_rfl
  case hy => rfl
  case hl => rfl
  case hnl => decide +kernel
  with_reducible
   refine ie_rng ?_
   walk_at "s0"
   walk_at "s1"
   refine bl_range ?_
   refine ⟨_, rfl, by decide, by decide, ?_⟩
   walk_at "s18"
  refine cp_cons ?_
  with_reducible
   refine ev_call (fun _ => rfl) (fun _ => rfl) ?_
   walk_at "s5"
   refine es_cons (fun _ => rfl) ?_
   refine ev_sub (fun _ _ => ⟨_, rfl⟩) ?_
   walk_at "s5"
   refine' ev_bin_l ?l_2 ?u_2 ?_; (case l_2 => walk_at "lk"); (case u_2 => walk_at "und")
   walk_at "s0"
   walk_at "s1"
   refine bl_len (.dl rfl) (.inr rfl) (by exact Nat.le_of_ble_eq_true rfl) ?_
   refine bin_mod (by first | assumption | omega | exact of_decide_eq_true rfl) ?_
   walk_at "s23"
   walk_at "s19"
   refine ev_sub (fun _ _ => ⟨_, rfl⟩) ?_
   walk_at "s5"
   refine' ev_bin_l ?l_3 ?u_3 ?_; (case l_3 => walk_at "lk"); (case u_3 => walk_at "und")
   walk_at "s0"
   walk_at "s1"
   refine bl_len (.dl rfl) (.inr rfl) (by exact Nat.le_of_ble_eq_true rfl) ?_
   refine bin_mod (by first | assumption | omega | exact of_decide_eq_true rfl) ?_
   walk_at "s23"
   apply c_and_items; iterate 1 walk_at "side"
  refine cp_nil ?_
  with_reducible
   refine ⟨_, rfl, ?_⟩
   walk_at "s6"
   walk_at "s16"
   walk_at "s0"
   refine' es_s ?_
   walk_at "s1"
   apply c_Vector; iterate 1 walk_at "side"
   walk_at "s6"
   refine' xs_do (fun _ => rfl) ?_
   walk_at "s0"
   walk_at "s3"
   walk_at "s3"
   walk_at "s1"
   apply c_shape_attrs; iterate 3 walk_at "side"
   walk_at "s22"
   walk_at "s10"
   walk_at "s10"
  exact k
theorem c_logic_or (hK : cx.K = HK P) {u v : Lf} {na : Addr} (hu : u ≠ .c) (hv : v ≠ .c) (pd : 0 < u.pd) (pe : 0 < v.pd) (k : K (.vec "logical" [.int (trOr u.pn v.pn)]) ((na, []) :: σ)) :
    CalTo cx (r + 6) KE (.fn "logic_or") [V u, V v, .lref na] ((na, []) :: σ) K := by
  have kn1 := u.kn
  have kn2 := v.kn
  refine go3 "u" "v" "notes" [] [("logic_pairs", .fn "logic_pairs"), ("or_items", .fn "or_items")] rfl hK (fo_logic_or _) (by decide +kernel) (GS.cons (gv_logic_pairs hK) (GS.cons (gv_or_items hK) GS.nil)) ?_
  conv => arg 6; whnf
  with_reducible
   refine' xs_ret ?_
   walk_at "s0"
   walk_at "s3"
   walk_at "s3"
   walk_at "s3"
   walk_at "s19"
   refine' ev_global ?h_1 ?_; (case h_1 => walk_at "lk")
  refine go4 "u" "v" "notes" "item_op" [("left", .undef), ("right", .undef), ("n", .undef), ("items", .undef), ("result", .undef)] [("logic_operand", .fn "logic_operand"), ("common_length", .fn "common_length"), ("range", .cv (.type "range")), ("Vector", .fn "Vector"), ("shape_attrs", .fn "shape_attrs")] rfl hK (fo_logic_pairs _) (by decide +kernel) (GS.cons (gv_logic_operand hK) (GS.cons (gv_common_length hK) (GS.cons (gvb_range hK) (GS.cons (gv_Vector hK) (GS.cons (gv_shape_attrs hK) GS.nil))))) ?_
  conv => arg 6; whnf
  with_reducible
   walk_at "s16"
   walk_at "s0"
   walk_at "s1"
   apply c_logic_operand; iterate 3 walk_at "side"
   walk_at "s6"
   walk_at "s16"
   walk_at "s0"
   walk_at "s1"
   apply c_logic_operand; iterate 3 walk_at "side"
   walk_at "s6"
   walk_at "s16"
   walk_at "s0"
   walk_at "s3"
   walk_at "s3"
   walk_at "s1"
   apply c_common_length; iterate 3 walk_at "side"
   walk_at "s6"
   refine xs_cons ?_
  refine' ex_comp_d (cap := [("item_op", _), ("left", _), ("right", _)]) (gl' := [("len", .cv (.builtin "len"))]) rfl (fun _ _ => rfl) ?hok (Caps.cons (by walk_at "lk") (Caps.cons (by walk_at "lk") (Caps.cons (by walk_at "lk") (Caps.nil)))) (GS.cons (gvb_len hK) GS.nil) ?hy ?hl ?hnl ?_
  case hok => kernel_rfl
  case hy => rfl
  case hl => rfl
  case hnl => decide +kernel
  with_reducible
   refine ie_rng ?_
   walk_at "s0"
   walk_at "s1"
   refine bl_range ?_
   refine ⟨_, rfl, by decide, by decide, ?_⟩
   walk_at "s18"
  refine cp_cons ?_
  with_reducible
   refine ev_call (fun _ => rfl) (fun _ => rfl) ?_
   walk_at "s5"
   refine es_cons (fun _ => rfl) ?_
   refine ev_sub (fun _ _ => ⟨_, rfl⟩) ?_
   walk_at "s5"
   refine' ev_bin_l ?l_2 ?u_2 ?_; (case l_2 => walk_at "lk"); (case u_2 => walk_at "und")
   walk_at "s0"
   walk_at "s1"
   refine bl_len (.dl rfl) (.inr rfl) (by exact Nat.le_of_ble_eq_true rfl) ?_
   refine bin_mod (by first | assumption | omega | exact of_decide_eq_true rfl) ?_
   walk_at "s23"
   walk_at "s19"
   refine ev_sub (fun _ _ => ⟨_, rfl⟩) ?_
   walk_at "s5"
   refine' ev_bin_l ?l_3 ?u_3 ?_; (case l_3 => walk_at "lk"); (case u_3 => walk_at "und")
   walk_at "s0"
   walk_at "s1"
   refine bl_len (.dl rfl) (.inr rfl) (by exact Nat.le_of_ble_eq_true rfl) ?_
   refine bin_mod (by first | assumption | omega | exact of_decide_eq_true rfl) ?_
   walk_at "s23"
   apply c_or_items; iterate 1 walk_at "side"
  refine cp_nil ?_
  with_reducible
   refine ⟨_, rfl, ?_⟩
   walk_at "s6"
   walk_at "s16"
   walk_at "s0"
   refine' es_s ?_
   walk_at "s1"
   apply c_Vector; iterate 1 walk_at "side"
   walk_at "s6"
   refine' xs_do (fun _ => rfl) ?_
   walk_at "s0"
   walk_at "s3"
   walk_at "s3"
   walk_at "s1"
   apply c_shape_attrs; iterate 3 walk_at "side"
   walk_at "s22"
   walk_at "s10"
   walk_at "s10"
  exact k
theorem c_logic_pairs_c (hK : cx.K = HK P) {u v : Lf} {na : Addr} {f : AV} (h : u = .c ∨ v = .c) (pd : 0 < u.pd) (pe : 0 < v.pd) (k : KE ((na, []) :: σ)) :
    CalTo cx (r + 5) KE (.fn "logic_pairs") [V u, V v, .lref na, f] ((na, []) :: σ) K := by
  refine go4 "u" "v" "notes" "item_op" [("left", .undef), ("right", .undef), ("n", .undef), ("items", .undef), ("result", .undef)] [("logic_operand", .fn "logic_operand"), ("common_length", .fn "common_length"), ("range", .cv (.type "range")), ("Vector", .fn "Vector"), ("shape_attrs", .fn "shape_attrs")] rfl hK (fo_logic_pairs _) (by decide +kernel) (GS.cons (gv_logic_operand hK) (GS.cons (gv_common_length hK) (GS.cons (gvb_range hK) (GS.cons (gv_Vector hK) (GS.cons (gv_shape_attrs hK) GS.nil))))) ?_
  conv => arg 6; whnf
  by_cases e : u = .c
  · subst e
    with_reducible
     walk_at "s16"
     walk_at "s0"
     walk_at "s1"
    apply c_logic_operand_c; iterate 1 walk_at "side"
    with_reducible
     walk_at "s10"
    exact k
  · have e2 := h.resolve_left e
    subst e2
    with_reducible
     walk_at "s16"
     walk_at "s0"
     walk_at "s1"
     apply c_logic_operand; iterate 3 walk_at "side"
     walk_at "s6"
     walk_at "s16"
     walk_at "s0"
     walk_at "s1"
    apply c_logic_operand_c; iterate 1 walk_at "side"
    with_reducible
     walk_at "s10"
    exact k
theorem c_logic_not_l (hK : cx.K = HK P) {u : Lf} (hu : u ≠ .c) (pd : 0 < u.pd) (k : K (.vec "logical" [.int (1 - tr u.pn)]) σ) : CalTo cx (r + 5) KE (.fn "logic_not") [V u] σ K := by
  have kn1 := u.kn
  have h0 := u.kn.facts.null
  have h1 := u.kn.facts.lay
  have hin : (!([PyData.str "logical", .str "integer", .str "double"].any fun y => PyData.eqv y (.str u.kd))) = false := by
    have nc := Lf.nc hu
    rcases u.kn with e | e | e | e
    · rw [e]; decide +kernel
    · rw [e]; decide +kernel
    · rw [e]; decide +kernel
    · exact absurd e nc
  refine go1 "v" [("result", .undef)] [("Vector", .fn "Vector"), ("Refusal", .fn "Refusal"), ("truth_items", .fn "truth_items"), ("keep_all", .fn "keep_all"), ("shape_attrs", .fn "shape_attrs")] rfl hK (fo_logic_not _) (by decide +kernel) (GS.cons (gv_Vector hK) (GS.cons (gv_Refusal hK) (GS.cons (gv_truth_items hK) (GS.cons (gv_keep_all hK) (GS.cons (gv_shape_attrs hK) GS.nil))))) ?_
  conv => arg 6; whnf
  with_reducible
   refine' xs_if0 ?_
   refine' ts_cmp_s rfl ?_
   walk_at "s8"
   refine attr_vec_kind (aV_kind (by assumption)) ?_
   refine cmp_eq_str ?_
   walk_at "s24"
   refine' xs_if0 ?_
   refine ts_cmp rfl ?_
   walk_at "s8"
   refine attr_vec_kind (aV_kind (by assumption)) ?_
   refine ev_tuple_a ?_
   refine' es_s ?_
   refine' es_s ?_
   refine' es_s1 ?_
   walk_at "s18"
   refine ⟨_, TupOf.d rfl, ?_⟩
   refine' cmp_in (T := "") ?h1_1 ?h2_1 ?hd_1 ?ha_1 (.inr rfl) ?_; (case ha_1 => first | exact .inl rfl | exact .inr rfl); (case h1_1 => walk_at "lay"); (case h2_1 => walk_at "lay"); (case hd_1 => walk_at "lay")
   walk_at "s24"
   walk_at "s16"
   walk_at "s0"
   refine' es_s ?_
   walk_at "s19"
  refine' ev_comp_d (cap := []) (gl' := [("not_item", .fn "not_item")]) rfl (fun _ _ => rfl) ?hok (Caps.nil) (GS.cons (gv_not_item hK) GS.nil) ?_
  case hok => kernel_rfl
  refine ie_seq ?_
  with_reducible
   walk_at "s0"
   walk_at "s1"
   apply c_truth_items; iterate 3 walk_at "side"
   refine ⟨_, _, .dl rfl, .inr rfl, ?_⟩
   walk_at "s17"
  refine cp_cons ?_
  with_reducible
   walk_at "s0"
   walk_at "s1"
   apply c_not_item; iterate 1 walk_at "side"
  refine cp_nil ?_
  with_reducible
   refine ⟨_, rfl, ?_⟩
   apply c_Vector; iterate 1 walk_at "side"
   walk_at "s6"
   refine' xs_if0 ?_
   refine' ts_cmp_s rfl ?_
   walk_at "s8"
   refine attr_vec_kind (aV_kind (by assumption)) ?_
   refine cmp_eq_str ?_
  refine ⟨fun h => ?_, fun h => ?_⟩
  · with_reducible
     refine' xs_ret ?_
     walk_at "s0"
     walk_at "s3"
     walk_at "s1"
     apply c_keep_all; iterate 1 walk_at "side"
     walk_at "s10"
    exact k
  · with_reducible
     refine' xs_do (fun _ => rfl) ?_
     walk_at "s0"
     walk_at "s3"
     walk_at "s3"
     walk_at "s1"
     apply c_shape_attrs; iterate 3 walk_at "side"
     walk_at "s22"
     walk_at "s10"
    exact k
theorem c_logic_not_c (hK : cx.K = HK P) {x : PyData} (k : KE σ) : CalTo cx (r + 5) KE (.fn "logic_not") [.vec "character" [x]] σ K := by
  refine go1 "v" [("result", .undef)] [("Vector", .fn "Vector"), ("Refusal", .fn "Refusal"), ("truth_items", .fn "truth_items"), ("keep_all", .fn "keep_all"), ("shape_attrs", .fn "shape_attrs")] rfl hK (fo_logic_not _) (by decide +kernel) (GS.cons (gv_Vector hK) (GS.cons (gv_Refusal hK) (GS.cons (gv_truth_items hK) (GS.cons (gv_keep_all hK) (GS.cons (gv_shape_attrs hK) GS.nil))))) ?_
  conv => arg 6; whnf
  with_reducible
   refine' xs_if0 ?_
   refine' ts_cmp_s rfl ?_
   walk_at "s8"
   refine attr_vec_kind (aV_kind (by assumption)) ?_
   refine cmp_eq_str ?_
   walk_at "s9"
   refine' xs_if0 ?_
   refine ts_cmp rfl ?_
   walk_at "s8"
   refine attr_vec_kind (aV_kind (by assumption)) ?_
   refine ev_tuple_a ?_
   refine' es_s ?_
   refine' es_s ?_
   refine' es_s1 ?_
   walk_at "s18"
   refine ⟨_, TupOf.d rfl, ?_⟩
   refine' cmp_in (T := "") ?h1_1 ?h2_1 ?hd_1 ?ha_1 (.inr rfl) ?_; (case ha_1 => first | exact .inl rfl | exact .inr rfl); (case h1_1 => walk_at "lay"); (case h2_1 => walk_at "lay"); (case hd_1 => walk_at "lay")
   walk_at "s14"
   refine' xs_if0 ?_
   refine ts_bool ?_
   refine bs_and ?_
   refine' ts_cmp_s rfl ?_
   walk_at "s8"
   refine attr_vec_kind (aV_kind (by assumption)) ?_
   refine cmp_eq_str ?_
   walk_at "s14"
   refine bs_and ?_
   refine ts_not ?_
   refine ts_value (fun _ _ => rfl) ?_
   walk_at "s8"
   refine attr_vec_items (aV_items (by assumption)) ?_
   refine tru_list (by exact Nat.le_of_ble_eq_true rfl) ?_
   refine ways_f rfl ?_
   walk_at "s9"
   refine xs_cons ?_
   refine' ex_raise ?w_2 ?l_2 (fun _ => rfl) ?_; (case w_2 => exact refOk (by assumption)); (case l_2 => walk_at "lk")
   refine ev_cstr ?_
   walk_at "s10"
  exact k
inductive Tr
  | leaf (u : Lf)
  | x
  | un (op : Str) (t : Tr) (tag : Bool)
  | bin (op : Str) (a b : Tr) (tag : Bool)
noncomputable def tagP (t : Bool) : PyData := if t then .str "e" else .none
noncomputable def VT : Tr → AV
  | .leaf u => V u
  | .x => .sym "x"
  | .un op t tag => .call [.sym op, VT t] [.none, tagP tag]
  | .bin op a b tag => .call [.sym op, VT a, VT b] [.none, tagP tag, .none]
noncomputable def oV : Option Lf → AV | some u => V u | none => N
theorem c_arith_names (hK : cx.K = HK P) (k : K (.d (.tuple [.str "+", .str "-", .str "*", .str "/", .str "^", .str "%%", .str "%/%"])) σ) : CalTo cx (r + 1) KE (.fn "arith_names") [] σ K := by
  refine go0  [] [] rfl hK (fo_arith_names _) (by decide +kernel) (GS.nil) ?_
  conv => arg 6; whnf
  with_reducible
   refine' xs_ret ?_
   refine ev_tuple_a ?_
   refine' es_s ?_
   refine' es_s ?_
   refine' es_s ?_
   refine' es_s ?_
   refine' es_s ?_
   refine' es_s ?_
   refine' es_s1 ?_
   walk_at "s18"
   refine ⟨_, TupOf.d rfl, ?_⟩
   walk_at "s10"
  exact k
theorem c_arith_names_t (hK : cx.K = HK P) (k : K (.tup [S "+", S "-", S "*", S "/", S "^", S "%%", S "%/%"]) σ) : CalTo cx (r + 1) KE (.fn "arith_names") [] σ K := by
  refine go0  [] [] rfl hK (fo_arith_names _) (by decide +kernel) (GS.nil) ?_
  conv => arg 6; whnf
  with_reducible
   refine' xs_ret ?_
  refine ev_tuple ?_
  with_reducible
   refine' es_s ?_
   refine' es_s ?_
   refine' es_s ?_
   refine' es_s ?_
   refine' es_s ?_
   refine' es_s ?_
   refine' es_s1 ?_
   walk_at "s18"
   walk_at "s10"
  exact k
theorem c_compare_names_t (hK : cx.K = HK P) (k : K (.tup [S "==", S "!=", S "<", S "<=", S ">", S ">="]) σ) : CalTo cx (r + 1) KE (.fn "compare_names") [] σ K := by
  refine go0  [] [] rfl hK (fo_compare_names _) (by decide +kernel) (GS.nil) ?_
  conv => arg 6; whnf
  with_reducible
   refine' xs_ret ?_
  refine ev_tuple ?_
  with_reducible
   refine' es_s ?_
   refine' es_s ?_
   refine' es_s ?_
   refine' es_s ?_
   refine' es_s ?_
   refine' es_s1 ?_
   walk_at "s18"
   walk_at "s10"
  exact k
theorem c_compare_names (hK : cx.K = HK P) (k : K (.d (.tuple [.str "==", .str "!=", .str "<", .str "<=", .str ">", .str ">="])) σ) : CalTo cx (r + 1) KE (.fn "compare_names") [] σ K := by
  refine go0  [] [] rfl hK (fo_compare_names _) (by decide +kernel) (GS.nil) ?_
  conv => arg 6; whnf
  with_reducible
   refine' xs_ret ?_
   refine ev_tuple_a ?_
   refine' es_s ?_
   refine' es_s ?_
   refine' es_s ?_
   refine' es_s ?_
   refine' es_s ?_
   refine' es_s1 ?_
   walk_at "s18"
   refine ⟨_, TupOf.d rfl, ?_⟩
   walk_at "s10"
  exact k
noncomputable def SF : List Str := ["+", "-", "*", "/", "^", "%%", "%/%", "==", "!=", "<", "<=", ">", ">=", "&", "|", "!", "("]
theorem c_safe_names (hK : cx.K = HK P) (k : K (.d (.tuple (SF.map .str))) σ) : CalTo cx (r + 2) KE (.fn "safe_names") [] σ K := by
  refine go0  [] [("arith_names", .fn "arith_names"), ("compare_names", .fn "compare_names")] rfl hK (fo_safe_names _) (by decide +kernel) (GS.cons (gv_arith_names hK) (GS.cons (gv_compare_names hK) GS.nil)) ?_
  conv => arg 6; whnf
  with_reducible
   refine' xs_ret ?_
   refine ev_bin ?_
   refine ev_bin ?_
   refine ev_call0 ?_
   refine' ev_global ?h_1 ?_; (case h_1 => walk_at "lk")
  refine c_arith_names_t hK ?_
  with_reducible
   refine ev_call0 ?_
   refine' ev_global ?h_2 ?_; (case h_2 => walk_at "lk")
  refine c_compare_names_t hK ?_
  refine bin_add_tup (by simp) (by simp) (by decide) ?_
  refine ev_tuple ?_
  with_reducible
   refine' es_s ?_
   refine' es_s ?_
   refine' es_s ?_
   refine' es_s1 ?_
   walk_at "s18"
  refine bin_add_tup_d (by simp) (by simp) (by decide) rfl ?_
  with_reducible
   walk_at "s10"
  exact k
theorem c_is_atomic (hK : cx.K = HK P) {kk : Str} {x : List PyData} (hk : Kn kk) (k : K (B true) σ) : CalTo cx (r + 1) KE (.fn "is_atomic") [.vec kk x] σ K := by
  have h1 := hk.facts.lay
  have hin : ([PyData.str "logical", .str "integer", .str "double", .str "character"].any fun y => PyData.eqv y (.str kk)) = true := by rcases hk with rfl | rfl | rfl | rfl <;> decide +kernel
  refine go1 "v" [] [] rfl hK (fo_is_atomic _) (by decide +kernel) (GS.nil) ?_
  conv => arg 6; whnf
  with_reducible
   refine' xs_ret ?_
   refine ev_cmp rfl ?_
   walk_at "s8"
   refine attr_vec_kind (aV_kind (by assumption)) ?_
   refine ev_tuple_a ?_
   refine' es_s ?_
   refine' es_s ?_
   refine' es_s ?_
   refine' es_s1 ?_
   walk_at "s18"
   refine ⟨_, TupOf.d rfl, ?_⟩
   walk_at "s4"
   walk_at "s10"
  exact (congrArg (fun z => K (B z) σ) hin).mpr k
theorem c_is_constant_l (hK : cx.K = HK P) {kk : Str} {x : PyData} (hk : Kn kk) (k : K (B true) σ) : CalTo cx (r + 2) KE (.fn "is_constant") [.vec kk [x]] σ K := by
  refine go1 "e" [] [("is_atomic", .fn "is_atomic"), ("len", .cv (.builtin "len"))] rfl hK (fo_is_constant _) (by decide +kernel) (GS.cons (gv_is_atomic hK) (GS.cons (gvb_len hK) GS.nil)) ?_
  conv => arg 6; whnf
  with_reducible
   refine' xs_ret ?_
   refine ev_bool_and ?_
   walk_at "s0"
   walk_at "s1"
   apply c_is_atomic; iterate 2 walk_at "side"
   refine tru_bool ?_
   walk_at "s14"
   refine ev_bool_and ?_
   refine ev_cmp rfl ?_
   walk_at "s0"
   walk_at "s19"
   walk_at "s8"
   refine attr_vec_items (aV_items (by assumption)) ?_
   refine bl_len (.dl rfl) (.inr rfl) (by exact Nat.le_of_ble_eq_true rfl) ?_
   refine ev_cint ?_
   refine cmp_eq_int ?_
   refine tru_bool ?_
   refine ways_t rfl ?_
   refine ev_bool_one ?_
   refine ev_cmp rfl ?_
   walk_at "s8"
   refine attr_vec_attrs (aV_attrs (by assumption)) ?_
   refine ev_cnone ?_
   refine' cmp_is_none ?hf_1 ?_; (case hf_1 => walk_at "nfn")
   walk_at "s10"
  exact k
theorem c_is_constant_s (hK : cx.K = HK P) {nm : Str} (k : K (B false) σ) : CalTo cx (r + 2) KE (.fn "is_constant") [.sym nm] σ K := by
  refine go1 "e" [] [("is_atomic", .fn "is_atomic"), ("len", .cv (.builtin "len"))] rfl hK (fo_is_constant _) (by decide +kernel) (GS.cons (gv_is_atomic hK) (GS.cons (gvb_len hK) GS.nil)) ?_
  conv => arg 6; whnf
  with_reducible
   refine' xs_ret ?_
   refine ev_bool_and ?_
   walk_at "s0"
   walk_at "s1"
  refine go1 "v" [] [] rfl hK (fo_is_atomic _) (by decide +kernel) (GS.nil) ?_
  conv => arg 6; whnf
  with_reducible
   refine' xs_ret ?_
   refine ev_cmp rfl ?_
   walk_at "s8"
   refine attr_sym_kind (aS_kind (by assumption)) ?_
   refine ev_tuple_a ?_
   refine' es_s ?_
   refine' es_s ?_
   refine' es_s ?_
   refine' es_s1 ?_
   walk_at "s18"
   refine ⟨_, TupOf.d rfl, ?_⟩
   walk_at "s4"
   walk_at "s10"
  refine tru_bool ?_
  with_reducible
   walk_at "s9"
   walk_at "s10"
  exact (congrArg (fun z => K (B z) σ) (show ([PyData.str "logical", .str "integer", .str "double", .str "character"].any fun y => PyData.eqv y (.str "symbol")) = false by decide +kernel)).mpr k
theorem c_is_constant_c (hK : cx.K = HK P) {items : List AV} {tags : List PyData} (k : K (B false) σ) : CalTo cx (r + 2) KE (.fn "is_constant") [.call items tags] σ K := by
  refine go1 "e" [] [("is_atomic", .fn "is_atomic"), ("len", .cv (.builtin "len"))] rfl hK (fo_is_constant _) (by decide +kernel) (GS.cons (gv_is_atomic hK) (GS.cons (gvb_len hK) GS.nil)) ?_
  conv => arg 6; whnf
  with_reducible
   refine' xs_ret ?_
   refine ev_bool_and ?_
   walk_at "s0"
   walk_at "s1"
  refine go1 "v" [] [] rfl hK (fo_is_atomic _) (by decide +kernel) (GS.nil) ?_
  conv => arg 6; whnf
  with_reducible
   refine' xs_ret ?_
   refine ev_cmp rfl ?_
   walk_at "s8"
   refine attr_call_kind (aC_kind (by assumption)) ?_
   refine ev_tuple_a ?_
   refine' es_s ?_
   refine' es_s ?_
   refine' es_s ?_
   refine' es_s1 ?_
   walk_at "s18"
   refine ⟨_, TupOf.d rfl, ?_⟩
   walk_at "s4"
   walk_at "s10"
  refine tru_bool ?_
  with_reducible
   walk_at "s9"
   walk_at "s10"
  exact (congrArg (fun z => K (B z) σ) (show ([PyData.str "logical", .str "integer", .str "double", .str "character"].any fun y => PyData.eqv y (.str "language")) = false by decide +kernel)).mpr k
theorem c_plain_call_name_s (hK : cx.K = HK P) {nm : Str} (k : K N σ) : CalTo cx (r + 1) KE (.fn "plain_call_name") [.sym nm] σ K := by
  refine go1 "e" [("tag", .undef)] [] rfl hK (fo_plain_call_name _) (by decide +kernel) (GS.nil) ?_
  conv => arg 6; whnf
  with_reducible
   refine' xs_if0 ?_
   refine ts_bool ?_
   refine bs_or ?_
   refine' ts_cmp_s rfl ?_
   walk_at "s8"
   refine attr_sym_kind (aS_kind (by assumption)) ?_
   refine cmp_ne_str ?_
   walk_at "s14"
   walk_at "s14"
   refine' xs_ret_n ?_
   walk_at "s10"
  exact k
theorem c_plain_call_name_t (hK : cx.K = HK P) {op : Str} {args : List AV} {tags : List PyData} (k : K N σ) : CalTo cx (r + 1) KE (.fn "plain_call_name") [.call (.sym op :: args) (.none :: .str "e" :: tags)] σ K := by
  refine go1 "e" [("tag", .undef)] [] rfl hK (fo_plain_call_name _) (by decide +kernel) (GS.nil) ?_
  conv => arg 6; whnf
  with_reducible
   refine' xs_if0 ?_
   refine ts_bool ?_
   refine bs_or ?_
   refine' ts_cmp_s rfl ?_
   walk_at "s8"
   refine attr_call_kind (aC_kind (by assumption)) ?_
   refine cmp_ne_str ?_
   walk_at "s9"
   refine bs_or ?_
   refine' ts_cmp_s rfl ?_
   refine ev_attr (fun _ _ => rfl) ?_
   refine ev_sub (fun _ _ => ⟨_, rfl⟩) ?_
   walk_at "s8"
   refine attr_call_items (aC_items (by assumption)) ?_
   refine ev_cint ?_
   refine' it_lst ?h_1 ?_; (case h_1 => with_unfolding_all exact rfl)
   refine attr_sym_kind (aS_kind (by assumption)) ?_
   refine cmp_ne_str ?_
   walk_at "s9"
   refine bs_or_nil ?_
   walk_at "s9"
   refine xs_cons ?_
   refine ex_for (fun _ _ => rfl) ?_
   refine ie_seq ?_
   walk_at "s8"
   refine attr_call_tags (aC_tags (by assumption)) ?_
   refine ⟨_, _, .dl rfl, .inr rfl, ?_⟩
  refine for_cons ?_
  with_reducible
   walk_at "s6"
   refine' xs_if0 ?_
   refine' ts_isnot_l ?l_2 ?u_2 ?hf_2 ?_; (case l_2 => walk_at "lk"); (case u_2 => walk_at "und"); (case hf_2 => walk_at "nfn")
   walk_at "s9"
   refine xs_nil ?_
  refine for_cons ?_
  with_reducible
   walk_at "s6"
   refine' xs_if0 ?_
   refine' ts_isnot_l ?l_3 ?u_3 ?hf_3 ?_; (case l_3 => walk_at "lk"); (case u_3 => walk_at "und"); (case hf_3 => walk_at "nfn")
   walk_at "s14"
   refine' xs_ret_n ?_
   walk_at "s10"
  exact k
theorem c_plain_call_name_2 (hK : cx.K = HK P) {op : Str} {args : List AV} (k : K (S op) σ) : CalTo cx (r + 1) KE (.fn "plain_call_name") [.call (.sym op :: args) [.none, .none]] σ K := by
  refine go1 "e" [("tag", .undef)] [] rfl hK (fo_plain_call_name _) (by decide +kernel) (GS.nil) ?_
  conv => arg 6; whnf
  with_reducible
   refine' xs_if0 ?_
   refine ts_bool ?_
   refine bs_or ?_
   refine' ts_cmp_s rfl ?_
   walk_at "s8"
   refine attr_call_kind (aC_kind (by assumption)) ?_
   refine cmp_ne_str ?_
   walk_at "s9"
   refine bs_or ?_
   refine' ts_cmp_s rfl ?_
   refine ev_attr (fun _ _ => rfl) ?_
   refine ev_sub (fun _ _ => ⟨_, rfl⟩) ?_
   walk_at "s8"
   refine attr_call_items (aC_items (by assumption)) ?_
   refine ev_cint ?_
   refine' it_lst ?h_1 ?_; (case h_1 => with_unfolding_all exact rfl)
   refine attr_sym_kind (aS_kind (by assumption)) ?_
   refine cmp_ne_str ?_
   walk_at "s9"
   refine bs_or_nil ?_
   walk_at "s9"
   refine xs_cons ?_
   refine ex_for (fun _ _ => rfl) ?_
   refine ie_seq ?_
   walk_at "s8"
   refine attr_call_tags (aC_tags (by assumption)) ?_
   refine ⟨_, _, .dl rfl, .inr rfl, ?_⟩
  refine for_cons ?_
  with_reducible
   walk_at "s6"
   refine' xs_if0 ?_
   refine' ts_isnot_l ?l_2 ?u_2 ?hf_2 ?_; (case l_2 => walk_at "lk"); (case u_2 => walk_at "und"); (case hf_2 => walk_at "nfn")
   walk_at "s9"
   refine xs_nil ?_
  refine for_cons ?_
  with_reducible
   walk_at "s6"
   refine' xs_if0 ?_
   refine' ts_isnot_l ?l_3 ?u_3 ?hf_3 ?_; (case l_3 => walk_at "lk"); (case u_3 => walk_at "und"); (case hf_3 => walk_at "nfn")
   walk_at "s9"
   refine xs_nil ?_
  refine for_nil ?_
  with_reducible
   refine' xs_ret ?_
   refine ev_attr (fun _ _ => rfl) ?_
   refine ev_sub (fun _ _ => ⟨_, rfl⟩) ?_
   walk_at "s8"
   refine attr_call_items (aC_items (by assumption)) ?_
   refine ev_cint ?_
   refine' it_lst ?h_4 ?_; (case h_4 => with_unfolding_all exact rfl)
   refine attr_sym_name (aS_name (by assumption)) ?_
   walk_at "s10"
  exact k
theorem c_plain_call_name_3 (hK : cx.K = HK P) {op : Str} {args : List AV} (k : K (S op) σ) : CalTo cx (r + 1) KE (.fn "plain_call_name") [.call (.sym op :: args) [.none, .none, .none]] σ K := by
  refine go1 "e" [("tag", .undef)] [] rfl hK (fo_plain_call_name _) (by decide +kernel) (GS.nil) ?_
  conv => arg 6; whnf
  with_reducible
   refine' xs_if0 ?_
   refine ts_bool ?_
   refine bs_or ?_
   refine' ts_cmp_s rfl ?_
   walk_at "s8"
   refine attr_call_kind (aC_kind (by assumption)) ?_
   refine cmp_ne_str ?_
   walk_at "s9"
   refine bs_or ?_
   refine' ts_cmp_s rfl ?_
   refine ev_attr (fun _ _ => rfl) ?_
   refine ev_sub (fun _ _ => ⟨_, rfl⟩) ?_
   walk_at "s8"
   refine attr_call_items (aC_items (by assumption)) ?_
   refine ev_cint ?_
   refine' it_lst ?h_1 ?_; (case h_1 => with_unfolding_all exact rfl)
   refine attr_sym_kind (aS_kind (by assumption)) ?_
   refine cmp_ne_str ?_
   walk_at "s9"
   refine bs_or_nil ?_
   walk_at "s9"
   refine xs_cons ?_
   refine ex_for (fun _ _ => rfl) ?_
   refine ie_seq ?_
   walk_at "s8"
   refine attr_call_tags (aC_tags (by assumption)) ?_
   refine ⟨_, _, .dl rfl, .inr rfl, ?_⟩
  refine for_cons ?_
  with_reducible
   walk_at "s6"
   refine' xs_if0 ?_
   refine' ts_isnot_l ?l_2 ?u_2 ?hf_2 ?_; (case l_2 => walk_at "lk"); (case u_2 => walk_at "und"); (case hf_2 => walk_at "nfn")
   walk_at "s9"
   refine xs_nil ?_
  refine for_cons ?_
  with_reducible
   walk_at "s6"
   refine' xs_if0 ?_
   refine' ts_isnot_l ?l_3 ?u_3 ?hf_3 ?_; (case l_3 => walk_at "lk"); (case u_3 => walk_at "und"); (case hf_3 => walk_at "nfn")
   walk_at "s9"
   refine xs_nil ?_
  refine for_cons ?_
  with_reducible
   walk_at "s6"
   refine' xs_if0 ?_
   refine' ts_isnot_l ?l_4 ?u_4 ?hf_4 ?_; (case l_4 => walk_at "lk"); (case u_4 => walk_at "und"); (case hf_4 => walk_at "nfn")
   walk_at "s9"
   refine xs_nil ?_
  refine for_nil ?_
  with_reducible
   refine' xs_ret ?_
   refine ev_attr (fun _ _ => rfl) ?_
   refine ev_sub (fun _ _ => ⟨_, rfl⟩) ?_
   walk_at "s8"
   refine attr_call_items (aC_items (by assumption)) ?_
   refine ev_cint ?_
   refine' it_lst ?h_5 ?_; (case h_5 => with_unfolding_all exact rfl)
   refine attr_sym_name (aS_name (by assumption)) ?_
   walk_at "s10"
  exact k
theorem cal_mono2 {f : AV} {args : List AV} {K K' : AV → Sig → Prop} {KE KE' : Sig → Prop} (h : CalTo cx r KE f args σ K) (k : ∀ a σ', K a σ' → K' a σ') (ke : ∀ σ', KE σ' → KE' σ') : CalTo cx r KE' f args σ K' :=
  ⟨h.keep, fun A Pr g s fv vs Q E hr hf J vf va q qe => h.run A Pr g s fv vs Q E hr hf J vf va (fun g' σ' s' av v k' => q g' σ' s' av v (k _ _ k')) fun g' σ' s' e k' => qe g' σ' s' e (ke _ k')⟩
theorem cal_pass {f : AV} {args : List AV} {K : AV → Sig → Prop} {KE : Sig → Prop} (h : CalTo cx r KE f args σ K) : CalTo cx r (fun σ1 => ∃ σ2 : Sig, σ2.Sublist σ1 ∧ KE σ2) f args σ (fun a σ1 => ∃ σ2 : Sig, σ2.Sublist σ1 ∧ K a σ2) :=
  cal_mono2 h (fun _ σ' k => ⟨σ', .refl _, k⟩) fun σ' k => ⟨σ', .refl _, k⟩
theorem c_binary_a (hK : cx.K = HK P) {op : Str} {a b : AV} {na : Addr} (ha : a ≠ .undef) (hb : b ≠ .undef) (lo : PyData.canLay0 (.str op) = true)
    (hin : ([PyData.str "+", .str "-", .str "*", .str "/", .str "^", .str "%%", .str "%/%"].any fun y => PyData.eqv y (.str op)) = true) (h : CalTo cx (r + 1) KE (.fn "arith") [S op, a, b, .lref na] σ K) : CalTo cx (r + 2) KE (.fn "binary_value") [S op, a, b, .lref na] σ K := by
  refine go4 "name" "u" "v" "notes" [] [("arith_names", .fn "arith_names"), ("arith", .fn "arith"), ("compare_names", .fn "compare_names"), ("compare_op", .fn "compare_op"), ("logic_and", .fn "logic_and"), ("logic_or", .fn "logic_or")] rfl hK (fo_binary_value _) (by decide +kernel) (GS.cons (gv_arith_names hK) (GS.cons (gv_arith hK) (GS.cons (gv_compare_names hK) (GS.cons (gv_compare_op hK) (GS.cons (gv_logic_and hK) (GS.cons (gv_logic_or hK) GS.nil)))))) ?_
  conv => arg 6; whnf
  with_reducible
   refine' xs_if0 ?_
   walk_at "s13"
   refine ev_call0 ?_
   refine' ev_global ?h_1 ?_; (case h_1 => walk_at "lk")
   apply c_arith_names; iterate 1 walk_at "side"
   walk_at "s4"
   refine ways_t (by with_reducible assumption) ?_
   refine' xs_ret ?_
   walk_at "s0"
   walk_at "s3"
   walk_at "s3"
   walk_at "s3"
   walk_at "s1"
  exact cal_pass h
theorem c_binary_c (hK : cx.K = HK P) {op : Str} {a b : AV} {na : Addr} (ha : a ≠ .undef) (hb : b ≠ .undef) (lo : PyData.canLay0 (.str op) = true)
    (hin : ([PyData.str "+", .str "-", .str "*", .str "/", .str "^", .str "%%", .str "%/%"].any fun y => PyData.eqv y (.str op)) = false)
    (hin2 : ([PyData.str "==", .str "!=", .str "<", .str "<=", .str ">", .str ">="].any fun y => PyData.eqv y (.str op)) = true)
    (h : CalTo cx (r + 1) KE (.fn "compare_op") [S op, a, b, .lref na] σ K) : CalTo cx (r + 2) KE (.fn "binary_value") [S op, a, b, .lref na] σ K := by
  refine go4 "name" "u" "v" "notes" [] [("arith_names", .fn "arith_names"), ("arith", .fn "arith"), ("compare_names", .fn "compare_names"), ("compare_op", .fn "compare_op"), ("logic_and", .fn "logic_and"), ("logic_or", .fn "logic_or")] rfl hK (fo_binary_value _) (by decide +kernel) (GS.cons (gv_arith_names hK) (GS.cons (gv_arith hK) (GS.cons (gv_compare_names hK) (GS.cons (gv_compare_op hK) (GS.cons (gv_logic_and hK) (GS.cons (gv_logic_or hK) GS.nil)))))) ?_
  conv => arg 6; whnf
  with_reducible
   refine' xs_if0 ?_
   walk_at "s13"
   refine ev_call0 ?_
   refine' ev_global ?h_1 ?_; (case h_1 => walk_at "lk")
   apply c_arith_names; iterate 1 walk_at "side"
   walk_at "s4"
   walk_at "s24"
   refine' xs_if0 ?_
   walk_at "s13"
   refine ev_call0 ?_
   refine' ev_global ?h_2 ?_; (case h_2 => walk_at "lk")
   apply c_compare_names; iterate 1 walk_at "side"
   walk_at "s4"
   refine ways_t (by with_reducible assumption) ?_
   refine' xs_ret ?_
   walk_at "s0"
   walk_at "s3"
   walk_at "s3"
   walk_at "s3"
   walk_at "s1"
  exact cal_pass h
theorem c_binary_and (hK : cx.K = HK P) {a b : AV} {na : Addr} (ha : a ≠ .undef) (hb : b ≠ .undef)
    (h : CalTo cx (r + 1) KE (.fn "logic_and") [a, b, .lref na] σ K) : CalTo cx (r + 2) KE (.fn "binary_value") [S "&", a, b, .lref na] σ K := by
  refine go4 "name" "u" "v" "notes" [] [("arith_names", .fn "arith_names"), ("arith", .fn "arith"), ("compare_names", .fn "compare_names"), ("compare_op", .fn "compare_op"), ("logic_and", .fn "logic_and"), ("logic_or", .fn "logic_or")] rfl hK (fo_binary_value _) (by decide +kernel) (GS.cons (gv_arith_names hK) (GS.cons (gv_arith hK) (GS.cons (gv_compare_names hK) (GS.cons (gv_compare_op hK) (GS.cons (gv_logic_and hK) (GS.cons (gv_logic_or hK) GS.nil)))))) ?_
  conv => arg 6; whnf
  with_reducible
   refine' xs_if0 ?_
   walk_at "s13"
   refine ev_call0 ?_
   refine' ev_global ?h_1 ?_; (case h_1 => walk_at "lk")
   apply c_arith_names; iterate 1 walk_at "side"
   walk_at "s4"
   walk_at "s9"
   refine' xs_if0 ?_
   walk_at "s13"
   refine ev_call0 ?_
   refine' ev_global ?h_2 ?_; (case h_2 => walk_at "lk")
   apply c_compare_names; iterate 1 walk_at "side"
   walk_at "s4"
   walk_at "s9"
   refine' xs_if0 ?_
   walk_at "s20"
   walk_at "s14"
   refine' xs_ret ?_
   walk_at "s0"
   walk_at "s3"
   walk_at "s3"
   walk_at "s1"
  exact cal_pass h
theorem c_binary_or (hK : cx.K = HK P) {a b : AV} {na : Addr} (ha : a ≠ .undef) (hb : b ≠ .undef)
    (h : CalTo cx (r + 1) KE (.fn "logic_or") [a, b, .lref na] σ K) : CalTo cx (r + 2) KE (.fn "binary_value") [S "|", a, b, .lref na] σ K := by
  refine go4 "name" "u" "v" "notes" [] [("arith_names", .fn "arith_names"), ("arith", .fn "arith"), ("compare_names", .fn "compare_names"), ("compare_op", .fn "compare_op"), ("logic_and", .fn "logic_and"), ("logic_or", .fn "logic_or")] rfl hK (fo_binary_value _) (by decide +kernel) (GS.cons (gv_arith_names hK) (GS.cons (gv_arith hK) (GS.cons (gv_compare_names hK) (GS.cons (gv_compare_op hK) (GS.cons (gv_logic_and hK) (GS.cons (gv_logic_or hK) GS.nil)))))) ?_
  conv => arg 6; whnf
  with_reducible
   refine' xs_if0 ?_
   walk_at "s13"
   refine ev_call0 ?_
   refine' ev_global ?h_1 ?_; (case h_1 => walk_at "lk")
   apply c_arith_names; iterate 1 walk_at "side"
   walk_at "s4"
   walk_at "s9"
   refine' xs_if0 ?_
   walk_at "s13"
   refine ev_call0 ?_
   refine' ev_global ?h_2 ?_; (case h_2 => walk_at "lk")
   apply c_compare_names; iterate 1 walk_at "side"
   walk_at "s4"
   walk_at "s9"
   refine' xs_if0 ?_
   walk_at "s20"
   walk_at "s9"
   refine' xs_if0 ?_
   walk_at "s20"
   walk_at "s14"
   refine' xs_ret ?_
   walk_at "s0"
   walk_at "s3"
   walk_at "s3"
   walk_at "s1"
  exact cal_pass h
theorem c_unary_p (hK : cx.K = HK P) {a : AV} {na : Addr} (ha : a ≠ .undef) (k : K a σ) : CalTo cx (r + 2) KE (.fn "unary_value") [S "(", a, .lref na] σ K := by
  refine go3 "name" "u" "notes" [] [("negate", .fn "negate"), ("logic_not", .fn "logic_not")] rfl hK (fo_unary_value _) (by decide +kernel) (GS.cons (gv_negate hK) (GS.cons (gv_logic_not hK) GS.nil)) ?_
  conv => arg 6; whnf
  with_reducible
   refine' xs_if0 ?_
   walk_at "s20"
   walk_at "s14"
   walk_at "s22"
   walk_at "s10"
  exact k
theorem c_unary_m (hK : cx.K = HK P) {a : AV} {na : Addr} (ha : a ≠ .undef) (h : CalTo cx (r + 1) KE (.fn "negate") [a, .lref na] σ K) : CalTo cx (r + 2) KE (.fn "unary_value") [S "-", a, .lref na] σ K := by
  refine go3 "name" "u" "notes" [] [("negate", .fn "negate"), ("logic_not", .fn "logic_not")] rfl hK (fo_unary_value _) (by decide +kernel) (GS.cons (gv_negate hK) (GS.cons (gv_logic_not hK) GS.nil)) ?_
  conv => arg 6; whnf
  with_reducible
   refine' xs_if0 ?_
   walk_at "s20"
   walk_at "s9"
   refine' xs_if0 ?_
   walk_at "s20"
   walk_at "s14"
   refine' xs_ret ?_
   walk_at "s0"
   walk_at "s3"
   walk_at "s1"
  exact cal_pass h
theorem c_unary_n (hK : cx.K = HK P) {a : AV} {na : Addr} (ha : a ≠ .undef) (h : CalTo cx (r + 1) KE (.fn "logic_not") [a] σ K) : CalTo cx (r + 2) KE (.fn "unary_value") [S "!", a, .lref na] σ K := by
  refine go3 "name" "u" "notes" [] [("negate", .fn "negate"), ("logic_not", .fn "logic_not")] rfl hK (fo_unary_value _) (by decide +kernel) (GS.cons (gv_negate hK) (GS.cons (gv_logic_not hK) GS.nil)) ?_
  conv => arg 6; whnf
  with_reducible
   refine' xs_if0 ?_
   walk_at "s20"
   walk_at "s9"
   refine' xs_if0 ?_
   walk_at "s20"
   walk_at "s9"
   refine' xs_if0 ?_
   walk_at "s20"
   walk_at "s9"
   refine' xs_if0 ?_
   walk_at "s20"
   walk_at "s14"
   refine' xs_ret ?_
   walk_at "s0"
   walk_at "s1"
  exact cal_pass h
noncomputable def BOk (cx : Cx) (f : Str) (args : Addr → List AV) (r : Nat) (res : Option Lf) : Prop :=
  ∀ (σ : Sig) (na : Addr) (K : AV → Sig → Prop) (KE : Sig → Prop), (∀ w, res = some w → K (V w) ((na, []) :: σ)) → (∀ a x, res = none → a ≠ .undef → K a ((na, [x]) :: σ)) → (res = none → KE ((na, []) :: σ)) → CalTo cx r KE (.fn f) (args na) ((na, []) :: σ) K
section frz
theorem c_call_value_2 (hK : cx.K = HK P) {op : Str} {a b : AV} {aa : Addr} {τ : Sig} {res : Option Lf} (ha : a ≠ .undef) (hb : b ≠ .undef) (h : BOk cx "binary_value" (fun na => [S op, a, b, .lref na]) r res)
    (k1 : ∀ w, res = some w → K (V w) ((aa, [a, b]) :: τ)) (k0 : res = none → K N ((aa, [a, b]) :: τ)) : CalTo cx (r + 1) KE (.fn "call_value") [S op, .lref aa] ((aa, [a, b]) :: τ) K := by
  refine go2 "name" "args" [("notes", .undef), ("value", .undef)] [("len", .cv (.builtin "len")), ("unary_value", .fn "unary_value"), ("binary_value", .fn "binary_value"), ("Refusal", .fn "Refusal")] rfl hK (fo_call_value _) (by decide +kernel) (GS.cons (gvb_len hK) (GS.cons (gv_unary_value hK) (GS.cons (gv_binary_value hK) (GS.cons (gv_Refusal hK) GS.nil)))) ?_
  conv => arg 6; whnf
  with_reducible
   walk_at "s16"
   refine ev_list_m (es := []) ?_
   refine es_nil ?_
   walk_at "s18"
   intro
   walk_at "s6"
   walk_at "s16"
   refine ev_cnone ?_
   walk_at "s6"
   refine xs_cons ?_
   refine' ex_try ?w_1 ?lk_1 ?_; (case w_1 => exact refOk (by assumption)); (case lk_1 => walk_at "lk")
   refine' xs_if ?_
   refine' ts_cmp_i rfl ?_
   walk_at "s0"
   walk_at "s1"
   refine bl_len_lref (by walk_at "mem") (by walk_at "len") ?_
   refine cmp_eq_int ?_
   refine ways_f rfl ?_
   refine' xs_if0 ?_
   refine' ts_cmp_i rfl ?_
   walk_at "s0"
   walk_at "s1"
   refine bl_len_lref (by walk_at "mem") (by walk_at "len") ?_
   refine cmp_eq_int ?_
   refine ways_t rfl ?_
   walk_at "s16"
   walk_at "s0"
   walk_at "s3"
   refine es_cons (fun _ => rfl) ?_
   walk_at "s2"
   refine' it_lref ?m_2 ?h_2 ?_; (case m_2 => walk_at "mem"); (case h_2 => with_unfolding_all exact rfl)
   refine es_cons (fun _ => rfl) ?_
   walk_at "s2"
   refine' it_lref ?m_3 ?h_3 ?_; (case m_3 => walk_at "mem"); (case h_3 => with_unfolding_all exact rfl)
   walk_at "s1"
  refine h _ _ _ _ (fun w e => ?_) (fun a' x e ha' => ?_) fun e => ?_
  · with_reducible
     walk_at "s6"
     refine xs_nil ?_
     refine xs_nil ?_
     refine xs_nil ?_
     refine' xs_if0 ?_
     refine' ts_cmp_i rfl ?_
     walk_at "s0"
     walk_at "s1"
     refine bl_len_lref (by walk_at "mem") (by walk_at "len") ?_
     refine cmp_gt_int ?_
     walk_at "s9"
     walk_at "s22"
     refine ⟨_, List.sublist_cons_self _ _, ?_⟩
    exact k1 w e
  · with_reducible
     walk_at "s6"
     refine xs_nil ?_
     refine xs_nil ?_
     refine xs_nil ?_
     refine' xs_if0 ?_
     refine' ts_cmp_i rfl ?_
     walk_at "s0"
     walk_at "s1"
     refine bl_len_lref (by walk_at "mem") (by walk_at "len") ?_
     refine cmp_gt_int ?_
     refine ways_t rfl ?_
     refine' xs_ret_n ?_
     refine ⟨_, List.sublist_cons_self _ _, ?_⟩
    exact k0 e
  · intro
    with_reducible
     refine ⟨_, List.sublist_cons_self _ _, ?_⟩
    exact k0 e
theorem c_call_value_1 (hK : cx.K = HK P) {op : Str} {a : AV} {aa : Addr} {τ : Sig} {res : Option Lf} (ha : a ≠ .undef) (h : BOk cx "unary_value" (fun na => [S op, a, .lref na]) r res)
    (k1 : ∀ w, res = some w → K (V w) ((aa, [a]) :: τ)) (k0 : res = none → K N ((aa, [a]) :: τ)) : CalTo cx (r + 1) KE (.fn "call_value") [S op, .lref aa] ((aa, [a]) :: τ) K := by
  refine go2 "name" "args" [("notes", .undef), ("value", .undef)] [("len", .cv (.builtin "len")), ("unary_value", .fn "unary_value"), ("binary_value", .fn "binary_value"), ("Refusal", .fn "Refusal")] rfl hK (fo_call_value _) (by decide +kernel) (GS.cons (gvb_len hK) (GS.cons (gv_unary_value hK) (GS.cons (gv_binary_value hK) (GS.cons (gv_Refusal hK) GS.nil)))) ?_
  conv => arg 6; whnf
  with_reducible
   walk_at "s16"
   refine ev_list_m (es := []) ?_
   refine es_nil ?_
   walk_at "s18"
   intro
   walk_at "s6"
   walk_at "s16"
   refine ev_cnone ?_
   walk_at "s6"
   refine xs_cons ?_
   refine' ex_try ?w_1 ?lk_1 ?_; (case w_1 => exact refOk (by assumption)); (case lk_1 => walk_at "lk")
   refine' xs_if ?_
   refine' ts_cmp_i rfl ?_
   walk_at "s0"
   walk_at "s1"
   refine bl_len_lref (by walk_at "mem") (by walk_at "len") ?_
   refine cmp_eq_int ?_
   refine ways_t rfl ?_
   walk_at "s16"
   walk_at "s0"
   walk_at "s3"
   refine es_cons (fun _ => rfl) ?_
   walk_at "s2"
   refine' it_lref ?m_2 ?h_2 ?_; (case m_2 => walk_at "mem"); (case h_2 => with_unfolding_all exact rfl)
   walk_at "s1"
  refine h _ _ _ _ (fun w e => ?_) (fun a' x e ha' => ?_) fun e => ?_
  · with_reducible
     walk_at "s6"
     refine xs_nil ?_
     refine xs_nil ?_
     refine' xs_if0 ?_
     refine' ts_cmp_i rfl ?_
     walk_at "s0"
     walk_at "s1"
     refine bl_len_lref (by walk_at "mem") (by walk_at "len") ?_
     refine cmp_gt_int ?_
     walk_at "s9"
     walk_at "s22"
     refine ⟨_, List.sublist_cons_self _ _, ?_⟩
    exact k1 w e
  · with_reducible
     walk_at "s6"
     refine xs_nil ?_
     refine xs_nil ?_
     refine' xs_if0 ?_
     refine' ts_cmp_i rfl ?_
     walk_at "s0"
     walk_at "s1"
     refine bl_len_lref (by walk_at "mem") (by walk_at "len") ?_
     refine cmp_gt_int ?_
     refine ways_t rfl ?_
     refine' xs_ret_n ?_
     refine ⟨_, List.sublist_cons_self _ _, ?_⟩
    exact k0 e
  · intro
    with_reducible
     refine ⟨_, List.sublist_cons_self _ _, ?_⟩
    exact k0 e
end frz
noncomputable def unF (op : Str) (u : Lf) : Option Lf :=
  if op = "(" then some u else match u with
    | .c => none
    | .w b n => some (if op = "-" then .w false (0 - n) else .w true (1 - tr (Lf.w b n).pn))
    | .d n m => some (if op = "-" then .d (-n) m else .w true (1 - tr (Lf.d n m).pn))
theorem VNE {u : Lf} : V u ≠ .undef := nofun
theorem un_ok (hK : cx.K = HK P) {op : Str} {u : Lf} (ho : op = "-" ∨ op = "!" ∨ op = "(") (pd : 0 < u.pd) : BOk cx "unary_value" (fun na => [S op, V u, .lref na]) (r + 10) (unF op u) := by
  intro σ na K KE k1 _ ke
  rcases ho with rfl | rfl | rfl
  · have e : ¬ ((Str.ofString "-" : Str) = "(") := by decide +kernel
    refine c_unary_m hK VNE ?_
    match u, pd, k1, ke with
    | .w false n, _, k1, _ => exact c_negate_w hK (.inl rfl) (k1 (.w false (0 - n)) (by simp [unF, e]))
    | .w true n, _, k1, _ => exact c_negate_w hK (.inr rfl) (k1 (.w false (0 - n)) (by simp [unF, e]))
    | .d n m, _, k1, _ => exact c_negate_d hK (k1 (.d (-n) m) (by simp [unF, e]))
    | .c, _, _, ke => exact c_negate_c hK (ke (by simp [unF, e]))
  · have e : ¬ ((Str.ofString "!" : Str) = "(") := by decide +kernel
    have e' : ¬ ((Str.ofString "!" : Str) = "-") := by decide +kernel
    refine c_unary_n hK VNE ?_
    match u, pd, k1, ke with
    | .w b n, pd, k1, _ => exact c_logic_not_l hK nofun pd (k1 (.w true (1 - tr (Lf.w b n).pn)) (by simp [unF, e, e']))
    | .d n m, pd, k1, _ => exact c_logic_not_l hK nofun pd (k1 (.w true (1 - tr (Lf.d n m).pn)) (by simp [unF, e, e']))
    | .c, _, _, ke => exact c_logic_not_c hK (ke (by simp [unF, e]))
  · exact c_unary_p hK VNE (k1 u (by simp [unF]))
noncomputable def arN (op : Str) : Prop := op = "+" ∨ op = "-" ∨ op = "*" ∨ op = "/" ∨ op = "^" ∨ op = "%%" ∨ op = "%/%"
noncomputable def cmN (op : Str) : Prop := op = "==" ∨ op = "!=" ∨ op = "<" ∨ op = ">="
noncomputable def isD : Lf → Bool | .d _ _ => true | _ => false
noncomputable def binF (op : Str) (u v : Lf) : Option Lf :=
  match u, v with
  | .c, _ => none
  | _, .c => none
  | u, v =>
    if op = "&" then some (.w true (tr (u.pn * v.pn))) else if op = "|" then some (.w true (trOr u.pn v.pn))
    else if op = "==" ∨ op = "!=" ∨ op = "<" ∨ op = ">=" then some (.w true (hold op (cmpI (u.pn * v.pd) (v.pn * u.pd))))
    else if (isD u || isD v || op = "/" || op = "^") = true then some (.d (dop op u.pn u.pd v.pn v.pd).1 (dop op u.pn u.pd v.pn v.pd).2)
    else (iop op u.pn v.pn).map (.w false)
theorem binF_nc {op : Str} {u v : Lf} (hu : u ≠ .c) (hv : v ≠ .c) : binF op u v = if op = "&" then some (.w true (tr (u.pn * v.pn))) else if op = "|" then some (.w true (trOr u.pn v.pn))
    else if op = "==" ∨ op = "!=" ∨ op = "<" ∨ op = ">=" then some (.w true (hold op (cmpI (u.pn * v.pd) (v.pn * u.pd))))
    else if (isD u || isD v || op = "/" || op = "^") = true then some (.d (dop op u.pn u.pd v.pn v.pd).1 (dop op u.pn u.pd v.pn v.pd).2)
    else (iop op u.pn v.pn).map (.w false) := by
  cases u <;> cases v <;> first | rfl | exact absurd rfl hu | exact absurd rfl hv
theorem binF_c {op : Str} {u v : Lf} (h : u = .c ∨ v = .c) : binF op u v = none := by
  rcases h with rfl | rfl
  · rfl
  · cases u <;> rfl
theorem isD_kd : ∀ u : Lf, (u.kd == ("double" : Str)) = isD u
  | .w false _ => by show (Str.ofString "integer" == Str.ofString "double") = false; decide +kernel
  | .w true _ => by show (Str.ofString "logical" == Str.ofString "double") = false; decide +kernel
  | .d _ _ => by show (Str.ofString "double" == Str.ofString "double") = true; decide +kernel
  | .c => by show (Str.ofString "character" == Str.ofString "double") = false; decide +kernel
theorem kd_w {b : Bool} {n : Int} : (Lf.w b n).kd = "integer" ∨ (Lf.w b n).kd = "logical" := by cases b; exact .inl rfl; exact .inr rfl
theorem kd_c {u : Lf} (h : u = .c) : u.kd = "character" := by rw [h]; rfl
theorem fmod_abs {a b : Int} (hb : b ≠ 0) : (a.fmod b).natAbs ≤ b.natAbs := by
  rcases Int.lt_trichotomy b 0 with h | h | h
  · have h1 := Int.fmod_nonneg_of_pos (-a) (b := -b) (by omega)
    have h2 := Int.fmod_lt_of_pos (-a) (b := -b) (by omega)
    rw [Int.neg_fmod_neg] at h1 h2
    omega
  · exact absurd h hb
  · have h1 := Int.fmod_nonneg_of_pos a h
    have h2 := Int.fmod_lt_of_pos a h
    omega
theorem iop_some {op : Str} {a b : Int} (ha : a.natAbs ≤ 2147483647) (hb : b.natAbs ≤ 2147483647) (ho : arN op) (h0 : b = 0 → op ≠ "/" ∧ op ≠ "%%" ∧ op ≠ "%/%") (hn : ¬ op = "/" ∧ ¬ op = "^") (e : iop op a b = none) : op = "+" ∨ op = "-" ∨ op = "*" := by
  rcases ho with h | h | h | h | h | h | h
  · exact .inl h
  · exact .inr (.inl h)
  · exact .inr (.inr h)
  · exact absurd h hn.1
  · exact absurd h hn.2
  · exfalso
    subst h
    have n1 : ¬ (Str.ofString "%%" : Str) = "+" := by decide +kernel
    have n2 : ¬ (Str.ofString "%%" : Str) = "-" := by decide +kernel
    have n3 : ¬ (Str.ofString "%%" : Str) = "*" := by decide +kernel
    have n4 : ¬ (Str.ofString "%%" : Str) = "%/%" := by decide +kernel
    have hb0 : b ≠ 0 := fun z => (h0 z).2.1 rfl
    have := fmod_abs (a := a) hb0
    rw [iop, iopF, if_neg n1, if_neg n2, if_neg n3, if_neg n4, if_pos (by omega)] at e
    cases e
  · exfalso
    subst h
    have n1 : ¬ (Str.ofString "%/%" : Str) = "+" := by decide +kernel
    have n2 : ¬ (Str.ofString "%/%" : Str) = "-" := by decide +kernel
    have n3 : ¬ (Str.ofString "%/%" : Str) = "*" := by decide +kernel
    have := Int.natAbs_fdiv_le_natAbs a b
    rw [iop, iopF, if_neg n1, if_neg n2, if_neg n3, if_pos rfl, if_pos (by omega)] at e
    cases e
structure BinPre (op : Str) (u v : Lf) : Prop where
  pu : 0 < u.pd
  pv : 0 < v.pd
  s1 : Sz 2100 u.pn
  s2 : Sz 2100 u.pd
  s3 : Sz 2100 v.pn
  s4 : Sz 2100 v.pd
  wu : ∀ b n, u = .w b n → n.natAbs ≤ 2147483647
  wv : ∀ b n, v = .w b n → n.natAbs ≤ 2147483647
  hc : cmN op → u ≠ .c ∧ v ≠ .c
  hm : u ≠ .c → v ≠ .c → v.pn = 0 → op ≠ "/" ∧ op ≠ "%%" ∧ op ≠ "%/%"
  hp : op = "^" → u ≠ .c → v ≠ .c → v.pd = 1 ∧ -3 ≤ v.pn ∧ v.pn ≤ 3 ∧ (u.pn = 0 → 0 < v.pn)
theorem ar_ok (hK : cx.K = HK P) {op : Str} {u v : Lf} (ho : arN op) (B : BinPre op u v) : BOk cx "binary_value" (fun na => [S op, V u, V v, .lref na]) (r + 10) (binF op u v) := by
  intro σ na K KE k1 k2 ke
  have lo : PyData.canLay0 (.str op) = true := by rcases ho with rfl | rfl | rfl | rfl | rfl | rfl | rfl <;> decide +kernel
  refine c_binary_a hK VNE VNE lo (by rcases ho with rfl | rfl | rfl | rfl | rfl | rfl | rfl <;> decide +kernel) ?_
  have hm0 : u ≠ .c → v ≠ .c → v.pn = 0 → op = "+" ∨ op = "-" ∨ op = "*" ∨ op = "^" := fun hu hv z => by
    have q := B.hm hu hv z
    rcases ho with h | h | h | h | h | h | h
    · exact .inl h
    · exact .inr (.inl h)
    · exact .inr (.inr (.inl h))
    · exact absurd h q.1
    · exact .inr (.inr (.inr h))
    · exact absurd h q.2.1
    · exact absurd h q.2.2
  have g1 : ¬ op = "&" := by rcases ho with rfl | rfl | rfl | rfl | rfl | rfl | rfl <;> decide +kernel
  have g2 : ¬ op = "|" := by rcases ho with rfl | rfl | rfl | rfl | rfl | rfl | rfl <;> decide +kernel
  have g3 : ¬ (op = "==" ∨ op = "!=" ∨ op = "<" ∨ op = ">=") := by rcases ho with rfl | rfl | rfl | rfl | rfl | rfl | rfl <;> decide +kernel
  by_cases hu : u = .c
  · rw [binF_c (.inl hu)] at ke
    exact c_arith_c hK u.kn v.kn (.inl (kd_c hu)) (ke rfl)
  by_cases hv : v = .c
  · rw [binF_c (.inr hv)] at ke
    exact c_arith_c hK u.kn v.kn (.inr (kd_c hv)) (ke rfl)
  rw [binF_nc hu hv, if_neg g1, if_neg g2, if_neg g3] at k1 k2
  by_cases hd : (isD u || isD v || op = "/" || op = "^") = true
  · rw [if_pos hd] at k1
    refine c_arith_d hK hu hv ?_ lo B.pu B.pv B.s1 B.s2 B.s3 B.s4 (hm0 hu hv) (fun h => B.hp h hu hv) (k1 (.d _ _) rfl)
    rw [isD_kd, isD_kd]
    simp only [Bool.or_eq_true, decide_eq_true_eq] at hd ⊢
    rcases hd with ((h | h) | h) | h
    · exact .inl (.inl h)
    · exact .inl (.inr h)
    · subst h; exact .inr (by decide +kernel)
    · subst h; exact .inr (by decide +kernel)
  · rw [if_neg hd] at k1 k2
    simp only [Bool.or_eq_true, decide_eq_true_eq, not_or] at hd
    match u, v, hu, hv, hd, k1, k2, B with
    | .w b n, .w b' n', hu, hv, hd, k1, k2, B =>
      have hz : n' = 0 → op = "+" ∨ op = "-" ∨ op = "*" := fun z => by
        rcases hm0 hu hv z with h | h | h | h
        · exact .inl h
        · exact .inr (.inl h)
        · exact .inr (.inr h)
        · exact absurd h hd.2
      refine c_arith_i hK kd_w kd_w (B.wu _ _ rfl) (B.wv _ _ rfl) hz ?_ (fun e => iop_some (B.wu _ _ rfl) (B.wv _ _ rfl) ho (B.hm hu hv) ⟨hd.1.2, hd.2⟩ e) (fun i hi => ?_) (fun hi => ?_)
      · rcases ho with h | h | h | h | h | h | h
        · exact .inl h
        · exact .inr (.inl h)
        · exact .inr (.inr (.inl h))
        · exact absurd h hd.1.2
        · exact absurd h hd.2
        · exact .inr (.inr (.inr (.inr h)))
        · exact .inr (.inr (.inr (.inl h)))
      · exact k1 (.w false i) (by show Option.map _ (iop op n n') = _; rw [hi]; rfl)
      · exact k2 _ _ (by show Option.map _ (iop op n n') = _; rw [hi]; rfl) nofun
    | .d _ _, _, _, _, hd, _, _, _ => exact absurd rfl hd.1.1.1
    | .w _ _, .d _ _, _, _, hd, _, _, _ => exact absurd rfl hd.1.1.2
theorem cm_ok (hK : cx.K = HK P) {op : Str} {u v : Lf} (ho : cmN op) (B : BinPre op u v) : BOk cx "binary_value" (fun na => [S op, V u, V v, .lref na]) (r + 10) (binF op u v) := by
  intro σ na K KE k1 k2 ke
  obtain ⟨hu, hv⟩ := B.hc ho
  have lo : PyData.canLay0 (.str op) = true := by rcases ho with rfl | rfl | rfl | rfl <;> decide +kernel
  have g1 : ¬ op = "&" := by rcases ho with rfl | rfl | rfl | rfl <;> decide +kernel
  have g2 : ¬ op = "|" := by rcases ho with rfl | rfl | rfl | rfl <;> decide +kernel
  refine c_binary_c hK VNE VNE lo (by rcases ho with rfl | rfl | rfl | rfl <;> decide +kernel) (by rcases ho with rfl | rfl | rfl | rfl <;> decide +kernel) ?_
  rw [binF_nc hu hv, if_neg g1, if_neg g2, if_pos (show op = "==" ∨ op = "!=" ∨ op = "<" ∨ op = ">=" from ho)] at k1
  by_cases hd : (isD u || isD v) = true
  · exact c_compare_op_d hK ho hu hv (by rw [isD_kd, isD_kd]; exact hd) B.pu B.pv (B.s1.mono (by decide)) (B.s2.mono (by decide)) (B.s3.mono (by decide)) (B.s4.mono (by decide)) (k1 (.w true _) rfl)
  · simp only [Bool.or_eq_true, not_or] at hd
    match u, v, hu, hv, hd, k1 with
    | .w b n, .w b' n', hu, hv, hd, k1 =>
      have := k1 (.w true _) rfl
      simp only [Lf.pn, Lf.pd, Int.mul_one] at this
      exact c_compare_op_i hK ho kd_w kd_w this
    | .d _ _, _, _, _, hd, _ => exact absurd rfl hd.1
    | .w _ _, .d _ _, _, _, hd, _ => exact absurd rfl hd.2
theorem c_logic_and_c (hK : cx.K = HK P) {u v : Lf} {na : Addr} (h : u = .c ∨ v = .c) (pd : 0 < u.pd) (pe : 0 < v.pd) (k : KE ((na, []) :: σ)) : CalTo cx (r + 6) KE (.fn "logic_and") [V u, V v, .lref na] ((na, []) :: σ) K := by
  refine go3 "u" "v" "notes" [] [("logic_pairs", .fn "logic_pairs"), ("and_items", .fn "and_items")] rfl hK (fo_logic_and _) (by decide +kernel) (GS.cons (gv_logic_pairs hK) (GS.cons (gv_and_items hK) GS.nil)) ?_
  conv => arg 6; whnf
  with_reducible
   refine' xs_ret ?_
   walk_at "s0"
   walk_at "s3"
   walk_at "s3"
   walk_at "s3"
   walk_at "s19"
   refine' ev_global ?h_1 ?_; (case h_1 => walk_at "lk")
  refine c_logic_pairs_c hK h pd pe ?_
  with_reducible
   walk_at "s10"
  exact k
theorem c_logic_or_c (hK : cx.K = HK P) {u v : Lf} {na : Addr} (h : u = .c ∨ v = .c) (pd : 0 < u.pd) (pe : 0 < v.pd) (k : KE ((na, []) :: σ)) : CalTo cx (r + 6) KE (.fn "logic_or") [V u, V v, .lref na] ((na, []) :: σ) K := by
  refine go3 "u" "v" "notes" [] [("logic_pairs", .fn "logic_pairs"), ("or_items", .fn "or_items")] rfl hK (fo_logic_or _) (by decide +kernel) (GS.cons (gv_logic_pairs hK) (GS.cons (gv_or_items hK) GS.nil)) ?_
  conv => arg 6; whnf
  with_reducible
   refine' xs_ret ?_
   walk_at "s0"
   walk_at "s3"
   walk_at "s3"
   walk_at "s3"
   walk_at "s19"
   refine' ev_global ?h_1 ?_; (case h_1 => walk_at "lk")
  refine c_logic_pairs_c hK h pd pe ?_
  with_reducible
   walk_at "s10"
  exact k
theorem lg_ok (hK : cx.K = HK P) {op : Str} {u v : Lf} (ho : op = "&" ∨ op = "|") (pu : 0 < u.pd) (pv : 0 < v.pd) : BOk cx "binary_value" (fun na => [S op, V u, V v, .lref na]) (r + 10) (binF op u v) := by
  intro σ na K KE k1 k2 ke
  by_cases h : u = .c ∨ v = .c
  · rw [binF_c h] at ke
    rcases ho with rfl | rfl
    · exact c_binary_and hK VNE VNE (c_logic_and_c hK h pu pv (ke rfl))
    · exact c_binary_or hK VNE VNE (c_logic_or_c hK h pu pv (ke rfl))
  · have hu : u ≠ .c := fun e => h (.inl e)
    have hv : v ≠ .c := fun e => h (.inr e)
    have n1 : ¬ (Str.ofString "|" : Str) = "&" := by decide +kernel
    rw [binF_nc hu hv] at k1
    rcases ho with rfl | rfl
    · exact c_binary_and hK VNE VNE (c_logic_and hK hu hv pu pv (k1 (.w true _) (if_pos rfl)))
    · exact c_binary_or hK VNE VNE (c_logic_or hK hu hv pu pv (k1 (.w true _) (by rw [if_neg n1, if_pos rfl])))
theorem bin_ok (hK : cx.K = HK P) {op : Str} {u v : Lf} (ho : arN op ∨ cmN op ∨ op = "&" ∨ op = "|") (B : BinPre op u v) : BOk cx "binary_value" (fun na => [S op, V u, V v, .lref na]) (r + 10) (binF op u v) :=
  ho.elim (fun h => ar_ok hK h B) fun h => h.elim (fun h => cm_ok hK h B) fun h => lg_ok hK h B.pu B.pv
theorem red_spec {n d : Int} (hd : d ≠ 0) : ∃ g : Int, 0 < g ∧ (if d < 0 then -n else n) = g * (red n d).1 ∧ (d.natAbs : Int) = g * (red n d).2 ∧ Nat.gcd (red n d).1.natAbs (red n d).2.natAbs = 1 ∧ 0 < (red n d).2 := by
  have h0 : 0 < d.natAbs := Int.natAbs_pos.mpr hd
  have hg := Nat.gcd_pos_of_pos_right n.natAbs h0
  have e1 : (if d < 0 then -n else n).natAbs = n.natAbs := by split <;> simp
  have hn : ((Nat.gcd n.natAbs d.natAbs : Nat) : Int) ∣ (if d < 0 then -n else n) := Int.dvd_natAbs.mp (Int.natCast_dvd_natCast.mpr (by rw [e1]; exact Nat.gcd_dvd_left _ _))
  have hdd : ((Nat.gcd n.natAbs d.natAbs : Nat) : Int) ∣ (d.natAbs : Int) := Int.natCast_dvd_natCast.mpr (Nat.gcd_dvd_right _ _)
  obtain ⟨N, hN⟩ := hn
  obtain ⟨D, hD⟩ := hdd
  have hgi : ((Nat.gcd n.natAbs d.natAbs : Nat) : Int) ≠ 0 := by omega
  have r1 : (red n d).1 = N := by show (if d < 0 then -n else n).fdiv _ = N; rw [hN, Int.mul_fdiv_cancel_left _ hgi]
  have r2 : (red n d).2 = D := by show (d.natAbs : Int).fdiv _ = D; rw [hD, Int.mul_fdiv_cancel_left _ hgi]
  refine ⟨(Nat.gcd n.natAbs d.natAbs : Nat), by omega, by rw [r1]; exact hN, by rw [r2]; exact hD, ?_, ?_⟩
  · rw [r1, r2]
    have hN' : n.natAbs = Nat.gcd n.natAbs d.natAbs * N.natAbs := by
      have := congrArg Int.natAbs hN
      rw [e1, Int.natAbs_mul, Int.natAbs_natCast] at this; exact this
    have hD' : d.natAbs = Nat.gcd n.natAbs d.natAbs * D.natAbs := by
      have := congrArg Int.natAbs hD
      rw [Int.natAbs_natCast, Int.natAbs_mul, Int.natAbs_natCast] at this; exact this
    have : Nat.gcd n.natAbs d.natAbs = Nat.gcd n.natAbs d.natAbs * Nat.gcd N.natAbs D.natAbs := by
      rw [← Nat.gcd_mul_left, ← hN', ← hD']
    exact Nat.eq_of_mul_eq_mul_left hg (by rw [Nat.mul_one]; exact this.symm)
  · rw [r2]
    refine Int.not_le.mp fun h => ?_
    · have := Int.mul_nonpos_of_nonneg_of_nonpos (a := ((Nat.gcd n.natAbs d.natAbs : Nat) : Int)) (by omega) h
      omega
theorem co_unique {N D N' D' : Int} (h : 0 < D) (h' : 0 < D') (c : Nat.gcd N.natAbs D.natAbs = 1) (c' : Nat.gcd N'.natAbs D'.natAbs = 1) (e : N * D' = N' * D) : N = N' ∧ D = D' := by
  have e2 : N.natAbs * D'.natAbs = N'.natAbs * D.natAbs := by rw [← Int.natAbs_mul, ← Int.natAbs_mul, e]
  have d1 : D.natAbs ∣ D'.natAbs := Nat.Coprime.dvd_of_dvd_mul_left (k := D.natAbs) (m := N.natAbs) (by rw [Nat.Coprime, Nat.gcd_comm]; exact c) (by rw [e2]; exact Nat.dvd_mul_left _ _)
  have d2 : D'.natAbs ∣ D.natAbs := Nat.Coprime.dvd_of_dvd_mul_left (k := D'.natAbs) (m := N'.natAbs) (by rw [Nat.Coprime, Nat.gcd_comm]; exact c') (by rw [← e2]; exact Nat.dvd_mul_left _ _)
  have eD : D = D' := by have := Nat.dvd_antisymm d1 d2; omega
  subst eD
  exact ⟨Int.eq_of_mul_eq_mul_right (by omega) e, rfl⟩
theorem red_val {n d : Int} (hd : d ≠ 0) : (red n d).1 * d = n * (red n d).2 := by
  obtain ⟨g, hg, h1, h2, -, -⟩ := red_spec (n := n) hd
  generalize (red n d).1 = N at *
  generalize (red n d).2 = D at *
  by_cases h : d < 0
  · rw [if_pos h] at h1
    have : d = -(g * D) := by omega
    rw [this, show n = -(g * N) by omega]
    grind
  · rw [if_neg h] at h1
    have : d = g * D := by omega
    rw [this, h1]
    grind
theorem red_co {n d : Int} (hd : d ≠ 0) : Nat.gcd (red n d).1.natAbs (red n d).2.natAbs = 1 := let ⟨_, _, _, _, h, _⟩ := red_spec (n := n) hd; h
theorem red_pos' {n d : Int} (hd : d ≠ 0) : 0 < (red n d).2 := let ⟨_, _, _, _, _, h⟩ := red_spec (n := n) hd; h
theorem red_unique {n d N D : Int} (hd : d ≠ 0) (hD : 0 < D) (c : Nat.gcd N.natAbs D.natAbs = 1) (e : N * d = n * D) : red n d = (N, D) := by
  have h1 := red_val (n := n) hd
  have h2 := red_co (n := n) hd
  have h3 := red_pos' (n := n) hd
  have : (red n d).1 = N ∧ (red n d).2 = D := by
    refine co_unique h3 hD h2 c ?_
    generalize (red n d).1 = A at *
    generalize (red n d).2 = B at *
    refine Int.eq_of_mul_eq_mul_right hd ?_
    grind
  exact Prod.ext this.1 this.2
theorem red_ratio {x y x' y' : Int} (h : y ≠ 0) (h' : y' ≠ 0) (e : x * y' = x' * y) : red x y = red x' y' := by
  have h1 := red_val (n := x') h'
  have := red_unique (n := x) (d := y) (N := (red x' y').1) (D := (red x' y').2) h (red_pos' h') (red_co h') ?_
  · exact this
  generalize (red x' y').1 = A at *
  generalize (red x' y').2 = B at *
  refine Int.eq_of_mul_eq_mul_right h' ?_
  grind
theorem red_id {n d : Int} (hd : 0 < d) (c : Nat.gcd n.natAbs d.natAbs = 1) : red n d = (n, d) := red_unique (by omega) hd c rfl
theorem fdiv_ratio {x y x' y' : Int} (h : 0 < y) (h' : 0 < y') (e : x * y' = x' * y) : x.fdiv y = x'.fdiv y' := by
  rw [Int.fdiv_eq_ediv_of_nonneg _ (by omega), Int.fdiv_eq_ediv_of_nonneg _ (by omega), ← Int.mul_ediv_mul_of_pos x y h', ← Int.mul_ediv_mul_of_pos x' y' h, Int.mul_comm y' x, Int.mul_comm y x', e, Int.mul_comm y y']
theorem fdiv_neg_neg (x y : Int) : (-x).fdiv (-y) = x.fdiv y := Int.neg_fdiv_neg x y
theorem red_fdiv {n d : Int} (hd : d ≠ 0) : (red n d).1.fdiv (red n d).2 = n.fdiv d := by
  have h1 := red_val (n := n) hd
  have h3 := red_pos' (n := n) hd
  generalize (red n d).1 = A at *
  generalize (red n d).2 = B at *
  rcases Int.lt_or_gt_of_ne hd with h | h
  · rw [← fdiv_neg_neg n d]
    exact fdiv_ratio h3 (by omega) (by grind)
  · exact fdiv_ratio h3 h h1
noncomputable def powL (a b c : Int) : Int × Int := if 0 ≤ c then red (a ^ c.toNat) (b ^ c.toNat) else red (b ^ (-c).toNat) (a ^ (-c).toNat)
noncomputable def nuL (op : Str) (a b c d fl : Int) : Int × Int := if op = "+" then (a * d + c * b, b * d) else if op = "-" then (a * d - c * b, b * d) else if op = "*" then (a * c, b * d) else (fl, 1)
noncomputable def flL (a b c d : Int) : Int := if 0 < c then (a * d).fdiv (b * c) else if c < 0 then (a * -d).fdiv (b * -c) else 0
noncomputable def numP (op : Str) (a b c d : Int) : Int × Int := if op = "%%" then (a * d - flL a b c d * c * b, b * d) else nuL op a b c d (flL a b c d)
theorem fl_eq {n d m e : Int} (hd : 0 < d) (hm : m ≠ 0) : fl n d m e = flL n d m e := by
  unfold fl
  rw [red_fdiv (Int.mul_ne_zero (by omega) hm), flL]
  split
  · rfl
  · rw [if_pos (by omega), Int.mul_neg, Int.mul_neg, Int.neg_fdiv_neg]
theorem pow_co {n d : Int} (c : Nat.gcd n.natAbs d.natAbs = 1) (k : Nat) : Nat.gcd (n ^ k).natAbs (d ^ k).natAbs = 1 := by
  rw [Int.natAbs_pow, Int.natAbs_pow]
  exact Nat.Coprime.pow k k c
theorem small3 {c : Int} (h : -3 ≤ c) (h' : c ≤ 3) : c = -3 ∨ c = -2 ∨ c = -1 ∨ c = 0 ∨ c = 1 ∨ c = 2 ∨ c = 3 := by
  obtain ⟨n, hn⟩ := Int.eq_ofNat_of_zero_le (show 0 ≤ c + 3 by omega)
  have hn : c = n - 3 := by omega
  have key : ∀ n : Fin 7, ((n.1 : Int) - 3 = -3 ∨ (n.1 : Int) - 3 = -2 ∨ (n.1 : Int) - 3 = -1 ∨ (n.1 : Int) - 3 = 0 ∨ (n.1 : Int) - 3 = 1 ∨ (n.1 : Int) - 3 = 2 ∨ (n.1 : Int) - 3 = 3) := by decide
  rw [hn]
  exact key ⟨n, by omega⟩
theorem powL_eq {n d c : Int} (hd : 0 < d) (co : Nat.gcd n.natAbs d.natAbs = 1) (hn : n = 0 → 0 < c) (h : -3 ≤ c) (h' : c ≤ 3) : powL n d c = pwr n d c := by
  have p : 0 ≤ c → powL n d c = (n ^ c.toNat, d ^ c.toNat) := fun h0 => by
    rw [powL, if_pos h0]
    exact red_id (Int.pow_pos hd) (pow_co co _)
  by_cases h1 : n = 1 ∧ d = 1
  · obtain ⟨rfl, rfl⟩ := h1
    rw [pwr, if_pos (.inl ⟨rfl, rfl⟩), powL]
    split <;> · rw [Int.one_pow]; decide
  · by_cases h2 : c = 0
    · subst h2
      rw [p (by omega), pwr, if_pos (.inr rfl)]; simp
    · rw [pwr, if_neg (by rintro (h | h); exact h1 h; exact h2 h)]
      by_cases h3 : n = 0 ∧ d = 1
      · obtain ⟨rfl, rfl⟩ := h3
        have := hn rfl
        rw [p (by omega), if_pos ⟨rfl, rfl⟩, Int.one_pow, Int.zero_pow (by omega)]
      · rw [if_neg h3, powR, if_neg h1]
        by_cases h4 : n = -1 ∧ d = 1
        · obtain ⟨rfl, rfl⟩ := h4
          rw [if_pos ⟨rfl, rfl⟩]
          rcases small3 h h' with rfl | rfl | rfl | rfl | rfl | rfl | rfl <;> decide
        · rw [if_neg h4]
          by_cases h5 : 0 ≤ c
          · rw [if_pos h5, p h5]
          · rw [if_neg h5, powL, if_neg h5]
theorem dop_eq {op : Str} {n d m e : Int} (ho : arN op) (hd : 0 < d) (he : 0 < e) (co : Nat.gcd n.natAbs d.natAbs = 1) (hm : m = 0 → op ≠ "/" ∧ op ≠ "%%" ∧ op ≠ "%/%") (hp : op = "^" → e = 1 ∧ -3 ≤ m ∧ m ≤ 3 ∧ (n = 0 → 0 < m)) :
    dop op n d m e = if op = "/" then red (n * e) (d * m) else if op = "^" then powL n d m else red (numP op n d m e).1 (numP op n d m e).2 := by
  have hde : d * e ≠ 0 := Int.mul_ne_zero (by omega) (by omega)
  rcases ho with rfl | rfl | rfl | rfl | rfl | rfl | rfl
  · rw [dop, if_pos rfl, if_neg (by decide +kernel), if_neg (by decide +kernel), numP, if_neg (by decide +kernel), nuL, if_pos rfl]
  · rw [dop, if_neg (by decide +kernel), if_pos rfl, if_neg (by decide +kernel), if_neg (by decide +kernel), numP, if_neg (by decide +kernel), nuL, if_neg (by decide +kernel), if_pos rfl, Int.neg_mul, Int.sub_eq_add_neg]
  · rw [dop, if_neg (by decide +kernel), if_neg (by decide +kernel), if_pos rfl, if_neg (by decide +kernel), if_neg (by decide +kernel), numP, if_neg (by decide +kernel), nuL, if_neg (by decide +kernel), if_neg (by decide +kernel), if_pos rfl]
  · rw [dop, if_neg (by decide +kernel), if_neg (by decide +kernel), if_neg (by decide +kernel), if_pos rfl, if_pos rfl]
  · obtain ⟨_, h1, h2, h3⟩ := hp rfl
    rw [dop, if_neg (by decide +kernel), if_neg (by decide +kernel), if_neg (by decide +kernel), if_neg (by decide +kernel), if_pos rfl, if_neg (by decide +kernel), if_pos rfl, powL_eq hd co h3 h1 h2]
  · have hm0 : m ≠ 0 := fun z => (hm z).2.1 rfl
    rw [dop, if_neg (by decide +kernel), if_neg (by decide +kernel), if_neg (by decide +kernel), if_neg (by decide +kernel), if_neg (by decide +kernel), if_neg (by decide +kernel), if_neg (by decide +kernel), if_neg (by decide +kernel), numP, if_pos rfl, fl_eq hd hm0]
    have v := red_val (n := flL n d m e * m) (d := 1 * e) (by omega)
    have q := red_pos' (n := flL n d m e * m) (d := 1 * e) (by omega)
    generalize (red (flL n d m e * m) (1 * e)).1 = A at *
    generalize (red (flL n d m e * m) (1 * e)).2 = B at *
    rw [Int.one_mul] at v
    refine red_ratio (Int.mul_ne_zero (by omega) (by omega)) hde ?_
    show (n * B + -A * d) * (d * e) = (n * e - flL n d m e * m * d) * (d * B)
    generalize flL n d m e * m = F at *
    grind
  · have hm0 : m ≠ 0 := fun z => (hm z).2.2 rfl
    rw [dop, if_neg (by decide +kernel), if_neg (by decide +kernel), if_neg (by decide +kernel), if_neg (by decide +kernel), if_neg (by decide +kernel), if_pos rfl, if_neg (by decide +kernel), if_neg (by decide +kernel), numP, if_neg (by decide +kernel), nuL, if_neg (by decide +kernel), if_neg (by decide +kernel), if_neg (by decide +kernel), fl_eq hd hm0]
    exact (red_id (by decide) (by simp)).symm
theorem flL_sz' {a b c d : Int} {x y : Nat} (hx : 1 ≤ x) (sa : Sz x a) (sd : Sz y d) : Sz (x + y) (flL a b c d) := by
  have key : ∀ p q : Int, Sz (x + y) p → Sz (x + y) (p.fdiv q) := fun p q h => by
    unfold Sz at *
    exact Nat.lt_of_le_of_lt (Int.natAbs_fdiv_le_natAbs p q) h
  unfold flL
  split
  · exact key _ _ (sa.mul sd)
  · split
    · exact key _ _ (sa.mul sd.neg)
    · exact Sz.mono (a := 1) (by unfold Sz; decide) (by omega)
structure ROk (B : Nat) (p : Int × Int) : Prop where
  s1 : Sz B p.1
  s2 : Sz B p.2
  pos : 0 < p.2
  co : Nat.gcd p.1.natAbs p.2.natAbs = 1
theorem red_rok {B : Nat} {x y : Int} (h : y ≠ 0) (s1 : Sz B x) (s2 : Sz B y) : ROk B (red x y) := ⟨red_sz1 s1, red_sz2 s2, red_pos' h, red_co h⟩
theorem dop_ok {op : Str} {n d m e : Int} {b : Nat} (hb : 1 ≤ b) (ho : arN op) (hd : 0 < d) (he : 0 < e) (co : Nat.gcd n.natAbs d.natAbs = 1) (hm : m = 0 → op ≠ "/" ∧ op ≠ "%%" ∧ op ≠ "%/%") (hp : op = "^" → e = 1 ∧ -3 ≤ m ∧ m ≤ 3 ∧ (n = 0 → 0 < m))
    (s1 : Sz b n) (s2 : Sz b d) (s3 : Sz b m) (s4 : Sz b e) : ROk (4 * b + 2) (dop op n d m e) := by
  have hde : d * e ≠ 0 := Int.mul_ne_zero (by omega) (by omega)
  have fs := flL_sz' (b := d) (c := m) hb s1 s4
  rw [dop_eq ho hd he co hm hp]
  split
  · next h => exact red_rok (Int.mul_ne_zero (by omega) fun z => (hm z).1 h) ((s1.mul s4).mono (by omega)) ((s2.mul s3).mono (by omega))
  · next h0 =>
    split
    · next h =>
      obtain ⟨_, h1, h2, h3⟩ := hp h
      have k1 : m.toNat ≤ 3 := by omega
      have k2 : (-m).toNat ≤ 3 := by omega
      have q : ∀ (x : Int) (k : Nat), k ≤ 3 → Sz b x → Sz (4 * b + 2) (x ^ k) := fun x k hk sx => (sx.pow k).mono (by have := Nat.mul_le_mul_left b hk; omega)
      unfold powL
      split
      · exact red_rok (Int.pow_ne_zero (by omega)) (q _ _ k1 s1) (q _ _ k1 s2)
      · exact red_rok (Int.pow_ne_zero (by omega)) (q _ _ k2 s2) (q _ _ k2 s1)
    · next h =>
      have fin : ∀ p : Int × Int, p.2 ≠ 0 → Sz (4 * b + 2) p.1 → Sz (4 * b + 2) p.2 → ROk (4 * b + 2) (red p.1 p.2) := fun p h s t => red_rok h s t
      have sde : Sz (4 * b + 2) (d * e) := (s2.mul s4).mono (by omega)
      have o1 : Sz (4 * b + 2) 1 := Sz.mono (a := 1) (by unfold Sz; decide) (by omega)
      refine fin _ ?_ ?_ ?_
      all_goals unfold numP nuL
      all_goals repeat' split
      all_goals first | exact hde | exact Int.one_ne_zero | exact sde | exact o1 | exact fs.mono (by omega) | skip
      · have a1 : Sz (4 * b + 1) (n * e) := (s1.mul s4).mono (by omega)
        have a2 : Sz (4 * b + 1) (-(flL n d m e * m * d)) := ((fs.mul s3).mul s2).neg.mono (by omega)
        exact a1.add a2
      · exact (((s1.mul s4).add ((s3.mul s2).mono (by omega))).mono (by omega))
      · exact (((s1.mul s4).add ((s3.mul s2).neg.mono (by omega))).mono (by omega) : Sz (4 * b + 2) (n * e + -(m * d)))
      · exact (s1.mul s3).mono (by omega)
structure Lf.Oc (b : Nat) (u : Lf) : Prop where
  n : Sz b u.pn
  d : Sz b u.pd
  pos : 0 < u.pd
  w : ∀ b n, u = .w b n → n.natAbs ≤ 2147483647
  co : Nat.gcd u.pn.natAbs u.pd.natAbs = 1
theorem Lf.Oc.mono {a b : Nat} {u : Lf} (h : u.Oc a) (l : a ≤ b) : u.Oc b := ⟨h.n.mono l, h.d.mono l, h.pos, h.w, h.co⟩
theorem w_oc {B : Nat} {b : Bool} {n : Int} (hB : 32 ≤ B) (h : n.natAbs ≤ 2147483647) : (Lf.w b n).Oc B :=
  ⟨Sz.mono (a := 32) (Nat.lt_of_le_of_lt h (by decide)) hB, Sz.mono (a := 1) (by show (1 : Int).natAbs < 2 ^ 1; decide) (by omega), by show (0 : Int) < 1; decide, fun _ _ e => by cases e; exact h, by show Nat.gcd _ (1 : Int).natAbs = 1; simp⟩
theorem d_oc {B : Nat} {p : Int × Int} (h : ROk B p) : (Lf.d p.1 p.2).Oc B := ⟨h.s1, h.s2, h.pos, nofun, h.co⟩
theorem unF_oc {op : Str} {u w : Lf} {b B : Nat} (hb : 32 ≤ b) (l : b ≤ B) (ou : u.Oc b) (e : unF op u = some w) : w.Oc B := by
  unfold unF at e
  split at e
  · cases e; exact ou.mono l
  · cases u with
    | c => cases e
    | w b' n =>
      have hn := ou.w _ _ rfl
      simp only [Option.some.injEq] at e
      subst e
      split
      · exact w_oc (by omega) (by omega)
      · exact w_oc (by omega) (by unfold tr; split <;> decide)
    | d n m =>
      simp only [Option.some.injEq] at e
      subst e
      split
      · exact ⟨ou.n.neg.mono l, ou.d.mono l, ou.pos, nofun, by have := ou.co; simpa [Lf.pn, Lf.pd] using this⟩
      · exact w_oc (by omega) (by unfold tr; split <;> decide)
theorem binF_oc {op : Str} {u v w : Lf} {b : Nat} (hb : 32 ≤ b) (ho : arN op ∨ cmN op ∨ op = "&" ∨ op = "|") (ou : u.Oc b) (ov : v.Oc b) (hm : u ≠ .c → v ≠ .c → v.pn = 0 → op ≠ "/" ∧ op ≠ "%%" ∧ op ≠ "%/%")
    (hp : op = "^" → u ≠ .c → v ≠ .c → v.pd = 1 ∧ -3 ≤ v.pn ∧ v.pn ≤ 3 ∧ (u.pn = 0 → 0 < v.pn)) (e : binF op u v = some w) : w.Oc (4 * b + 2) := by
  by_cases hc : u = .c ∨ v = .c
  · rw [binF_c hc] at e; cases e
  · have hu : u ≠ .c := fun z => hc (.inl z)
    have hv : v ≠ .c := fun z => hc (.inr z)
    rw [binF_nc hu hv] at e
    split at e
    · cases e; exact w_oc (by omega) (by unfold tr; split <;> decide)
    · next n1 =>
      split at e
      · cases e; exact w_oc (by omega) (by unfold trOr tr; split <;> first | decide | (split <;> decide))
      · next n2 =>
        split at e
        · cases e; exact w_oc (by omega) (by unfold hold; split <;> decide)
        · next n3 =>
          have ha : arN op := by
            rcases ho with h | h | h
            · exact h
            · exact absurd h n3
            · exact h.elim (fun z => absurd z n1) fun z => absurd z n2
          split at e
          · cases e; exact d_oc (dop_ok (by omega) ha ou.pos ov.pos ou.co (hm hu hv) (fun z => hp z hu hv) ou.n ou.d ov.n ov.d)
          · obtain ⟨i, hi, rfl⟩ := Option.map_eq_some_iff.mp e
            unfold iop at hi
            split at hi
            · next h => cases hi; exact w_oc (by omega) h
            · cases hi
noncomputable def Tr.inn (ss : List Str) : Tr → Bool
  | .leaf _ => true
  | .x => true
  | .un op t _ => ss.contains op && t.inn ss
  | .bin op a b _ => ss.contains op && a.inn ss && b.inn ss
noncomputable def isC : Lf → Bool | .c => true | _ => false
noncomputable def skp (op : Str) (u v : Lf) : Bool :=
  if isC u || isC v then op == "==" || op == "<" || op == ">=" || op == "!="
  else (op == "/" || op == "%%" || op == "%/%") && v.pn == 0 || op == "^" && (v.pd != 1 || decide (3 < v.pn.natAbs) || (u.pn == 0 && decide (v.pn ≤ 0)))
noncomputable def reck : Tr → Option (Option Lf)
  | .leaf u => some (some u)
  | .x => some none
  | .un op t tag => match reck t with
    | none => none
    | some r => if tag || op == "f" then some none else match r with
      | none => some none
      | some u => some (unF op u)
  | .bin op a b tag => match reck a, reck b with
    | some ra, some rb => if tag then some none else match ra, rb with
      | some u, some v => if skp op u v then none else some (binF op u v)
      | _, _ => some none
    | _, _ => none
noncomputable def Tr.WF : Tr → Prop
  | .leaf u => u.Oc 32
  | .x => True
  | .un op t _ => (op = "-" ∨ op = "!" ∨ op = "(" ∨ op = "f") ∧ t.WF
  | .bin op a b _ => (arN op ∨ cmN op ∨ op = "&" ∨ op = "|") ∧ a.WF ∧ b.WF
noncomputable def Tr.ht : Tr → Nat
  | .leaf _ => 0
  | .x => 0
  | .un _ t _ => t.ht + 1
  | .bin _ a b _ => max a.ht b.ht + 1
noncomputable def bd : Nat → Nat | 0 => 32 | h + 1 => 4 * bd h + 2
theorem any_str {op : Str} : ∀ {ss : List Str}, ((ss.map PyData.str).any fun y => PyData.eqv y (.str op)) = ss.contains op
  | [] => rfl
  | a :: l => by
    rw [List.map_cons, List.any_cons, any_str, List.contains_cons]
    congr 1
    simp [PyData.eqv, eq_comm, BEq.comm]
noncomputable def FoldOK (cx : Cx) (ss : List Str) (t : Tr) : Prop := t.WF → t.ht ≤ 4 → ∀ (r : Nat), t.ht ≤ r → ∀ (σ : Sig) (K : AV → Sig → Prop) (KE : Sig → Prop) (rv : Option Lf), reck t = some rv →
    (∀ w, rv = some w → t.inn ss = true → K (.tup [B true, V w]) σ) → ((rv = none ∨ t.inn ss = false) → K (.d (.tuple [.bool false, .none])) σ) → CalTo cx (r + 12) KE (.fn "fold") [VT t, .d (.tuple (ss.map .str))] σ K
theorem VTne : ∀ {t : Tr}, VT t ≠ .undef
  | .leaf _ => nofun
  | .x => nofun
  | .un .. => nofun
  | .bin .. => nofun
theorem reck_un {op : Str} {t : Tr} {tag : Bool} {rv : Option Lf} (e : reck (.un op t tag) = some rv) : ∃ rt, reck t = some rt ∧ ((tag || op == "f") = true → rv = none) ∧ ((tag || op == "f") = false → (rt = none → rv = none) ∧ ∀ u, rt = some u → rv = unF op u) := by
  unfold reck at e
  cases h : reck t with
  | none => rw [h] at e; cases e
  | some rt =>
    rw [h] at e
    refine ⟨rt, rfl, fun q => ?_, fun q => ?_⟩
    · simp only [q, if_true] at e; cases e; rfl
    · simp only [q] at e
      refine ⟨fun z => ?_, fun u z => ?_⟩ <;> · subst z; cases e; rfl
theorem reck_bin {op : Str} {a b : Tr} {tag : Bool} {rv : Option Lf} (e : reck (.bin op a b tag) = some rv) : ∃ ra rb, reck a = some ra ∧ reck b = some rb ∧ (tag = true → rv = none) ∧ (tag = false → (ra = none → rv = none) ∧ (rb = none → rv = none) ∧ ∀ u v, ra = some u → rb = some v → skp op u v = false ∧ rv = binF op u v) := by
  unfold reck at e
  cases h : reck a with
  | none => rw [h] at e; cases e
  | some ra =>
    cases h' : reck b with
    | none => rw [h, h'] at e; cases e
    | some rb =>
      rw [h, h'] at e
      refine ⟨ra, rb, rfl, rfl, fun q => ?_, fun q => ?_⟩
      · subst q; cases e; rfl
      · subst q
        refine ⟨fun z => ?_, fun z => ?_, fun u v z z' => ?_⟩
        · subst z; cases e; rfl
        · subst z; cases ra <;> · cases e; rfl
        · subst z; subst z'
          cases hs : skp op u v with
          | true => simp [hs] at e
          | false => simp [hs] at e; exact ⟨rfl, e.symm⟩
theorem skp_pre {op : Str} {u v : Lf} (s : skp op u v = false) : (cmN op → u ≠ .c ∧ v ≠ .c) ∧ (u ≠ .c → v ≠ .c → v.pn = 0 → op ≠ "/" ∧ op ≠ "%%" ∧ op ≠ "%/%") ∧ (op = "^" → u ≠ .c → v ≠ .c → v.pd = 1 ∧ -3 ≤ v.pn ∧ v.pn ≤ 3 ∧ (u.pn = 0 → 0 < v.pn)) := by
  have nc : ∀ {u : Lf}, u ≠ .c → isC u = false := fun {u} h => by cases u <;> first | rfl | exact absurd rfl h
  have cn : ∀ {u : Lf}, isC u = false → u ≠ .c := fun {u} h e => by subst e; cases h
  unfold skp at s
  refine ⟨fun hc => ?_, fun hu hv hz => ?_, fun ho hu hv => ?_⟩
  · split at s
    · simp only [Bool.or_eq_false_iff, beq_eq_false_iff_ne] at s
      exfalso
      rcases hc with h | h | h | h
      · exact s.1.1.1 h
      · exact s.2 h
      · exact s.1.1.2 h
      · exact s.1.2 h
    · next h =>
      simp only [Bool.not_eq_true, Bool.or_eq_false_iff] at h
      exact ⟨cn h.1, cn h.2⟩
  · rw [nc hu, nc hv, if_neg (by decide), hz] at s
    simp only [Bool.or_eq_false_iff, beq_self_eq_true, Bool.and_true, beq_eq_false_iff_ne] at s
    exact ⟨s.1.1.1, s.1.1.2, s.1.2⟩
  · rw [nc hu, nc hv, if_neg (by decide)] at s
    simp only [Bool.or_eq_false_iff, ho, beq_self_eq_true, Bool.true_and, bne_eq_false_iff_eq, decide_eq_false_iff_not, Bool.and_eq_false_iff, beq_eq_false_iff_ne] at s
    obtain ⟨_, ⟨h1, h2⟩, h3⟩ := s
    refine ⟨h1, by omega, by omega, fun z => ?_⟩
    rcases h3 with h | h
    · exact absurd z h
    · omega
theorem pre_ok {op : Str} {u v : Lf} {b : Nat} (hb : b ≤ 2100) (ou : u.Oc b) (ov : v.Oc b) (s : skp op u v = false) : BinPre op u v :=
  let ⟨h1, h2, h3⟩ := skp_pre s
  ⟨ou.pos, ov.pos, ou.n.mono hb, ou.d.mono hb, ov.n.mono hb, ov.d.mono hb, ou.w, ov.w, h1, h2, h3⟩
theorem bd_mono : ∀ {a b : Nat}, a ≤ b → bd a ≤ bd b
  | 0, 0, _ => Nat.le_refl _
  | 0, b + 1, _ => by have := bd_mono (Nat.zero_le b); show bd 0 ≤ 4 * bd b + 2; omega
  | a + 1, b + 1, h => by have := bd_mono (Nat.le_of_succ_le_succ h); show 4 * bd a + 2 ≤ 4 * bd b + 2; omega
theorem reck_ok : ∀ {t : Tr} {u : Lf}, t.WF → reck t = some (some u) → u.Oc (bd t.ht)
  | .leaf u, w, wf, e => by cases e; exact wf
  | .x, w, wf, e => by cases e
  | .un op t tag, w, wf, e => by
    obtain ⟨rt, ert, h1, h2⟩ := reck_un e
    have h32 : 32 ≤ bd t.ht := bd_mono (Nat.zero_le _)
    cases hq : (tag || op == "f") with
    | true => cases h1 hq
    | false =>
      obtain ⟨e1, e2⟩ := h2 hq
      cases rt with
      | none => cases e1 rfl
      | some v => exact unF_oc h32 (bd_mono (Nat.le_succ _)) (reck_ok wf.2 ert) (e2 v rfl).symm
  | .bin op a b tag, w, wf, e => by
    obtain ⟨ra, rb, era, erb, h1, h2⟩ := reck_bin e
    have h32 : 32 ≤ bd (max a.ht b.ht) := bd_mono (Nat.zero_le _)
    cases tag with
    | true => cases h1 rfl
    | false =>
      obtain ⟨e1, e2, e3⟩ := h2 rfl
      cases ra with
      | none => cases e1 rfl
      | some u => cases rb with
        | none => cases e2 rfl
        | some v =>
          obtain ⟨sk, er⟩ := e3 u v rfl rfl
          obtain ⟨-, p2, p3⟩ := skp_pre sk
          exact binF_oc h32 wf.1 ((reck_ok wf.2.1 era).mono (bd_mono (Nat.le_max_left _ _))) ((reck_ok wf.2.2 erb).mono (bd_mono (Nat.le_max_right _ _))) p2 p3 er.symm
theorem fold_leaf (hK : cx.K = HK P) {ss : List Str} (u : Lf) : FoldOK cx ss (.leaf u) := by
  intro wf _ r _ σ K KE rv e k1 _
  have kn := u.kn
  cases e
  show CalTo cx _ _ (.fn "fold") [V u, _] _ _
  refine go2 "e" "safe" [("name", .undef), ("args", .undef), ("item", .undef), ("found", .undef), ("value", .undef)] [("is_constant", .fn "is_constant"), ("plain_call_name", .fn "plain_call_name"), ("fold", .fn "fold"), ("call_value", .fn "call_value"), ("share", .fn "share")] rfl hK (fo_fold _) (by decide +kernel) (GS.cons (gv_is_constant hK) (GS.cons (gv_plain_call_name hK) (GS.cons (gv_fold hK) (GS.cons (gv_call_value hK) (GS.cons (gv_share hK) GS.nil))))) ?_
  conv => arg 6; whnf
  with_reducible
   refine' xs_if0 ?_
   refine ts_value (fun _ _ => rfl) ?_
   walk_at "s0"
   walk_at "s1"
   apply c_is_constant_l; iterate 2 walk_at "side"
   refine tru_bool ?_
   walk_at "s14"
   refine' xs_ret ?_
   refine ev_tuple_a ?_
   refine es_cons (fun _ => rfl) ?_
   refine ev_cbool ?_
   walk_at "s1"
   walk_at "s17"
   refine ⟨_, TupOf.tup, ?_⟩
   walk_at "s10"
  exact k1 u rfl rfl
theorem fold_x (hK : cx.K = HK P) {ss : List Str} : FoldOK cx ss .x := by
  intro wf _ r _ σ K KE rv e _ k0
  cases e
  show CalTo cx _ _ (.fn "fold") [.sym "x", _] _ _
  refine go2 "e" "safe" [("name", .undef), ("args", .undef), ("item", .undef), ("found", .undef), ("value", .undef)] [("is_constant", .fn "is_constant"), ("plain_call_name", .fn "plain_call_name"), ("fold", .fn "fold"), ("call_value", .fn "call_value"), ("share", .fn "share")] rfl hK (fo_fold _) (by decide +kernel) (GS.cons (gv_is_constant hK) (GS.cons (gv_plain_call_name hK) (GS.cons (gv_fold hK) (GS.cons (gv_call_value hK) (GS.cons (gv_share hK) GS.nil))))) ?_
  conv => arg 6; whnf
  with_reducible
   refine' xs_if0 ?_
   refine ts_value (fun _ _ => rfl) ?_
   walk_at "s0"
   walk_at "s1"
   apply c_is_constant_s; iterate 1 walk_at "side"
   refine tru_bool ?_
   walk_at "s9"
   walk_at "s16"
   walk_at "s0"
   walk_at "s1"
   apply c_plain_call_name_s; iterate 1 walk_at "side"
   walk_at "s6"
   refine' xs_if0 ?_
   refine ts_bool ?_
   refine bs_or ?_
   walk_at "s15"
   walk_at "s14"
   walk_at "s14"
   refine' xs_ret ?_
   refine ev_tuple_a ?_
   refine es_cons (fun _ => rfl) ?_
   refine ev_cbool ?_
   walk_at "s19"
   refine ev_cnone ?_
   walk_at "s18"
   refine ⟨_, TupOf.d rfl, ?_⟩
   walk_at "s10"
  exact k0 (.inl rfl)
theorem bd_le {h : Nat} (k : h ≤ 3) : bd h ≤ 2100 := by
  match h, k with
  | 0, _ => decide
  | 1, _ => decide
  | 2, _ => decide
  | 3, _ => decide
section fld
theorem fold_un_t (hK : cx.K = HK P) {ss : List Str} {op : Str} {t : Tr} : FoldOK cx ss (.un op t true) := by
  intro wf h4 r hr σ K KE rv e k1 k0
  obtain ⟨rt, _, e0, _⟩ := reck_un e
  show CalTo cx _ _ (.fn "fold") [.call [.sym op, VT t] [.none, .str "e"], _] _ _
  refine go2 "e" "safe" [("name", .undef), ("args", .undef), ("item", .undef), ("found", .undef), ("value", .undef)] [("is_constant", .fn "is_constant"), ("plain_call_name", .fn "plain_call_name"), ("fold", .fn "fold"), ("call_value", .fn "call_value"), ("share", .fn "share")] rfl hK (fo_fold _) (by decide +kernel) (GS.cons (gv_is_constant hK) (GS.cons (gv_plain_call_name hK) (GS.cons (gv_fold hK) (GS.cons (gv_call_value hK) (GS.cons (gv_share hK) GS.nil))))) ?_
  conv => arg 6; whnf
  with_reducible
   refine' xs_if0 ?_
   refine ts_value (fun _ _ => rfl) ?_
   walk_at "s0"
   walk_at "s1"
   apply c_is_constant_c; iterate 1 walk_at "side"
   refine tru_bool ?_
   walk_at "s9"
   walk_at "s16"
   walk_at "s0"
   walk_at "s1"
   apply c_plain_call_name_t; iterate 1 walk_at "side"
   walk_at "s6"
   refine' xs_if0 ?_
   refine ts_bool ?_
   refine bs_or ?_
   walk_at "s15"
   walk_at "s14"
   walk_at "s14"
   refine' xs_ret ?_
   refine ev_tuple_a ?_
   refine es_cons (fun _ => rfl) ?_
   refine ev_cbool ?_
   walk_at "s19"
   refine ev_cnone ?_
   walk_at "s18"
   refine ⟨_, TupOf.d rfl, ?_⟩
   walk_at "s10"
  exact k0 (.inl (e0 rfl))
theorem fold_un (hK : cx.K = HK P) {ss : List Str} (h1 : PyData.canLayAll0 (ss.map .str) = true) (hd : PyData.depthAll (ss.map .str) ≤ 8) (hf : ss.contains "f" = false) {op : Str} {t : Tr} (ih : FoldOK cx ss t) : FoldOK cx ss (.un op t false) := by
  intro wf h4 r hr σ K KE rv e k1 k0
  have ht : t.ht + 1 ≤ r := hr
  have ht4 : t.ht + 1 ≤ 4 := h4
  obtain ⟨r, rfl⟩ := ex_pred ht
  have lo : PyData.canLay0 (.str op) = true := by rcases wf.1 with rfl | rfl | rfl | rfl <;> decide +kernel
  have hne : VT t ≠ .undef := VTne
  obtain ⟨rt, ert, _, e0⟩ := reck_un e
  show CalTo cx _ _ (.fn "fold") [.call [.sym op, VT t] [.none, .none], _] _ _
  refine go2 "e" "safe" [("name", .undef), ("args", .undef), ("item", .undef), ("found", .undef), ("value", .undef)] [("is_constant", .fn "is_constant"), ("plain_call_name", .fn "plain_call_name"), ("fold", .fn "fold"), ("call_value", .fn "call_value"), ("share", .fn "share")] rfl hK (fo_fold _) (by decide +kernel) (GS.cons (gv_is_constant hK) (GS.cons (gv_plain_call_name hK) (GS.cons (gv_fold hK) (GS.cons (gv_call_value hK) (GS.cons (gv_share hK) GS.nil))))) ?_
  conv => arg 6; whnf
  with_reducible
   refine' xs_if0 ?_
   refine ts_value (fun _ _ => rfl) ?_
   walk_at "s0"
   walk_at "s1"
   apply c_is_constant_c; iterate 1 walk_at "side"
   refine tru_bool ?_
   walk_at "s9"
   walk_at "s16"
   walk_at "s0"
   walk_at "s1"
   apply c_plain_call_name_2; iterate 1 walk_at "side"
   walk_at "s6"
   refine' xs_if0 ?_
   refine ts_bool ?_
   refine bs_or ?_
   walk_at "s15"
   refine ways_f rfl ?_
   refine bs_or ?_
   refine' ts_cmp_ll ?l_1 ?u_1 ?l2_1 ?u2_1 rfl ?_; (case l_1 => walk_at "lk"); (case u_1 => walk_at "und"); (case l2_1 => walk_at "lk"); (case u2_1 => walk_at "und")
   refine' cmp_in (T := "") ?h1_2 ?h2_2 ?hd_2 ?ha_2 (.inr rfl) ?_; (case ha_2 => first | exact .inl rfl | exact .inr rfl); (case h1_2 => walk_at "lay"); (case h2_2 => walk_at "lay"); (case hd_2 => walk_at "lay")
  show Ways (!(List.map PyData.str ss).any _) _ _
  rw [any_str]
  refine ⟨fun h => ?_, fun h => ?_⟩
  · with_reducible
     walk_at "s14"
     refine' xs_ret ?_
     refine ev_tuple_a ?_
     refine es_cons (fun _ => rfl) ?_
     refine ev_cbool ?_
     walk_at "s19"
     refine ev_cnone ?_
     walk_at "s18"
     refine ⟨_, TupOf.d rfl, ?_⟩
     walk_at "s10"
    exact k0 (.inr (by show (ss.contains op && _) = false; rw [show ss.contains op = false by simpa using h]; rfl))
  · have hc : ss.contains op = true := by simpa using h
    have nf : op ≠ "f" := fun z => by rw [z, hf] at hc; cases hc
    obtain ⟨e1, e2⟩ := e0 (by simpa using nf)
    have ho : op = "-" ∨ op = "!" ∨ op = "(" := by
      rcases wf.1 with z | z | z | z
      · exact .inl z
      · exact .inr (.inl z)
      · exact .inr (.inr z)
      · exact absurd z nf
    have inn : t.inn ss = (Tr.un op t false).inn ss := by show _ = (ss.contains op && _); rw [hc]; rfl
    with_reducible
     refine bs_or_nil ?_
     walk_at "s9"
     walk_at "s16"
     refine ev_list_m (es := []) ?_
     refine es_nil ?_
     walk_at "s18"
     intro
     walk_at "s6"
     refine xs_cons ?_
     refine ex_for (fun _ _ => rfl) ?_
     refine ie_seq ?_
     refine ev_tail ?_
     walk_at "s8"
     refine attr_call_items (aC_items (by assumption)) ?_
     refine ⟨_, _, rfl, by walk_at "len", ?_⟩
     refine ⟨_, _, .lst rfl, .inr rfl, ?_⟩
     refine for_cons ?_
     walk_at "s6"
     refine xs_cons ?_
     refine ex_unpack2 (fun _ => rfl) (fun _ => rfl) ?_
     walk_at "s0"
     walk_at "s3"
     walk_at "s1"
    refine ih wf.2 (by omega) r (by omega) _ _ _ rt ert (fun w ew hi => ?_) fun hn => ?_
    · have pd : 0 < w.pd := (reck_ok wf.2 (ert.trans (by rw [ew]))).pos
      have hr := e2 w ew
      with_reducible
       refine ⟨_, _, .tup rfl, ?_⟩
       walk_at "s6"
       walk_at "s6"
       refine' xs_if0 ?_
       refine ts_not ?_
       refine' ts_l ?l_3 ?u_3 ?_; (case l_3 => walk_at "lk"); (case u_3 => walk_at "und")
       refine tru_bool ?_
       walk_at "s9"
       refine' xs_do (fun _ => rfl) ?_
       refine ev_append (fun _ => rfl) (fun _ => rfl) rfl (fun _ => rfl) ?_
       walk_at "s5"
       refine ⟨_, rfl, ⟨_, by walk_at "mem"⟩, ?_⟩
       walk_at "s5"
       refine ⟨_, _, (by walk_at "su" : SU _ _ _ _ _), by walk_at "len", ?_⟩
       refine xs_nil ?_
       refine for_nil ?_
       walk_at "s16"
       walk_at "s0"
       walk_at "s3"
       walk_at "s1"
      refine c_call_value_1 hK VNE (un_ok hK ho pd) (fun z ez => ?_) fun ez => ?_
      · with_reducible
         walk_at "s6"
         refine' xs_if0 ?_
         walk_at "s15"
         refine ways_f rfl ?_
         refine' xs_ret ?_
         refine ev_tuple_a ?_
         refine es_cons (fun _ => rfl) ?_
         refine ev_cbool ?_
         walk_at "s19"
         walk_at "s0"
         walk_at "s1"
         apply c_share; iterate 1 walk_at "side"
         walk_at "s17"
         refine ⟨_, TupOf.tup, ?_⟩
         refine ⟨_, List.sublist_cons_self _ _, ?_⟩
        exact k1 z (hr.trans ez) (inn ▸ hi)
      · with_reducible
         walk_at "s6"
         refine' xs_if0 ?_
         walk_at "s15"
         walk_at "s14"
         refine' xs_ret ?_
         refine ev_tuple_a ?_
         refine es_cons (fun _ => rfl) ?_
         refine ev_cbool ?_
         walk_at "s19"
         refine ev_cnone ?_
         walk_at "s18"
         refine ⟨_, TupOf.d rfl, ?_⟩
         refine ⟨_, List.sublist_cons_self _ _, ?_⟩
        exact k0 (.inl (hr.trans ez))
    · with_reducible
       refine ⟨_, _, .dt rfl, ?_⟩
       walk_at "s6"
       walk_at "s6"
       refine' xs_if0 ?_
       refine ts_not ?_
       refine' ts_l ?l_4 ?u_4 ?_; (case l_4 => walk_at "lk"); (case u_4 => walk_at "und")
       refine tru_bool ?_
       walk_at "s14"
       refine' xs_ret ?_
       refine ev_tuple_a ?_
       refine es_cons (fun _ => rfl) ?_
       refine ev_cbool ?_
       walk_at "s19"
       refine ev_cnone ?_
       walk_at "s18"
       refine ⟨_, TupOf.d rfl, ?_⟩
       refine ⟨_, List.sublist_cons_self _ _, ?_⟩
      exact k0 (hn.elim (fun z => .inl (e1 z)) fun z => .inr (inn ▸ z))
theorem fold_bin_t (hK : cx.K = HK P) {ss : List Str} {op : Str} {a b : Tr} : FoldOK cx ss (.bin op a b true) := by
  intro wf h4 r hr σ K KE rv e k1 k0
  obtain ⟨ra, rb, _, _, e0, _⟩ := reck_bin e
  show CalTo cx _ _ (.fn "fold") [.call [.sym op, VT a, VT b] [.none, .str "e", .none], _] _ _
  refine go2 "e" "safe" [("name", .undef), ("args", .undef), ("item", .undef), ("found", .undef), ("value", .undef)] [("is_constant", .fn "is_constant"), ("plain_call_name", .fn "plain_call_name"), ("fold", .fn "fold"), ("call_value", .fn "call_value"), ("share", .fn "share")] rfl hK (fo_fold _) (by decide +kernel) (GS.cons (gv_is_constant hK) (GS.cons (gv_plain_call_name hK) (GS.cons (gv_fold hK) (GS.cons (gv_call_value hK) (GS.cons (gv_share hK) GS.nil))))) ?_
  conv => arg 6; whnf
  with_reducible
   refine' xs_if0 ?_
   refine ts_value (fun _ _ => rfl) ?_
   walk_at "s0"
   walk_at "s1"
   apply c_is_constant_c; iterate 1 walk_at "side"
   refine tru_bool ?_
   walk_at "s9"
   walk_at "s16"
   walk_at "s0"
   walk_at "s1"
   apply c_plain_call_name_t; iterate 1 walk_at "side"
   walk_at "s6"
   refine' xs_if0 ?_
   refine ts_bool ?_
   refine bs_or ?_
   walk_at "s15"
   walk_at "s14"
   walk_at "s14"
   refine' xs_ret ?_
   refine ev_tuple_a ?_
   refine es_cons (fun _ => rfl) ?_
   refine ev_cbool ?_
   walk_at "s19"
   refine ev_cnone ?_
   walk_at "s18"
   refine ⟨_, TupOf.d rfl, ?_⟩
   walk_at "s10"
  exact k0 (.inl (e0 rfl))
theorem fold_bin (hK : cx.K = HK P) {ss : List Str} (h1 : PyData.canLayAll0 (ss.map .str) = true) (hd : PyData.depthAll (ss.map .str) ≤ 8) {op : Str} {a b : Tr} (iha : FoldOK cx ss a) (ihb : FoldOK cx ss b) : FoldOK cx ss (.bin op a b false) := by
  intro wf h4 r hr σ K KE rv e k1 k0
  have hm : max a.ht b.ht + 1 ≤ r := hr
  have hm4 : max a.ht b.ht + 1 ≤ 4 := h4
  have hta : a.ht ≤ max a.ht b.ht := Nat.le_max_left _ _
  have htb : b.ht ≤ max a.ht b.ht := Nat.le_max_right _ _
  obtain ⟨r, rfl⟩ := ex_pred hm
  have lo : PyData.canLay0 (.str op) = true := by
    rcases wf.1 with z | z | z
    · rcases z with rfl | rfl | rfl | rfl | rfl | rfl | rfl <;> decide +kernel
    · rcases z with rfl | rfl | rfl | rfl <;> decide +kernel
    · rcases z with rfl | rfl <;> decide +kernel
  have hna : VT a ≠ .undef := VTne
  have hnb : VT b ≠ .undef := VTne
  obtain ⟨ra, rb, era, erb, _, e0⟩ := reck_bin e
  obtain ⟨e1, e2, e3⟩ := e0 rfl
  show CalTo cx _ _ (.fn "fold") [.call [.sym op, VT a, VT b] [.none, .none, .none], _] _ _
  refine go2 "e" "safe" [("name", .undef), ("args", .undef), ("item", .undef), ("found", .undef), ("value", .undef)] [("is_constant", .fn "is_constant"), ("plain_call_name", .fn "plain_call_name"), ("fold", .fn "fold"), ("call_value", .fn "call_value"), ("share", .fn "share")] rfl hK (fo_fold _) (by decide +kernel) (GS.cons (gv_is_constant hK) (GS.cons (gv_plain_call_name hK) (GS.cons (gv_fold hK) (GS.cons (gv_call_value hK) (GS.cons (gv_share hK) GS.nil))))) ?_
  conv => arg 6; whnf
  with_reducible
   refine' xs_if0 ?_
   refine ts_value (fun _ _ => rfl) ?_
   walk_at "s0"
   walk_at "s1"
   apply c_is_constant_c; iterate 1 walk_at "side"
   refine tru_bool ?_
   walk_at "s9"
   walk_at "s16"
   walk_at "s0"
   walk_at "s1"
   apply c_plain_call_name_3; iterate 1 walk_at "side"
   walk_at "s6"
   refine' xs_if0 ?_
   refine ts_bool ?_
   refine bs_or ?_
   walk_at "s15"
   refine ways_f rfl ?_
   refine bs_or ?_
   refine' ts_cmp_ll ?l_1 ?u_1 ?l2_1 ?u2_1 rfl ?_; (case l_1 => walk_at "lk"); (case u_1 => walk_at "und"); (case l2_1 => walk_at "lk"); (case u2_1 => walk_at "und")
   refine' cmp_in (T := "") ?h1_2 ?h2_2 ?hd_2 ?ha_2 (.inr rfl) ?_; (case ha_2 => first | exact .inl rfl | exact .inr rfl); (case h1_2 => walk_at "lay"); (case h2_2 => walk_at "lay"); (case hd_2 => walk_at "lay")
  show Ways (!(List.map PyData.str ss).any _) _ _
  rw [any_str]
  refine ⟨fun h => ?_, fun h => ?_⟩
  · with_reducible
     walk_at "s14"
     refine' xs_ret ?_
     refine ev_tuple_a ?_
     refine es_cons (fun _ => rfl) ?_
     refine ev_cbool ?_
     walk_at "s19"
     refine ev_cnone ?_
     walk_at "s18"
     refine ⟨_, TupOf.d rfl, ?_⟩
     walk_at "s10"
    exact k0 (.inr (by show (ss.contains op && _ && _) = false; rw [show ss.contains op = false by simpa using h]; rfl))
  · have hc : ss.contains op = true := by simpa using h
    have inn : (Tr.bin op a b false).inn ss = (a.inn ss && b.inn ss) := by show (ss.contains op && _ && _) = _; rw [hc]; rfl
    rw [inn] at k1 k0
    with_reducible
     refine bs_or_nil ?_
     walk_at "s9"
     walk_at "s16"
     refine ev_list_m (es := []) ?_
     refine es_nil ?_
     walk_at "s18"
     intro
     walk_at "s6"
     refine xs_cons ?_
     refine ex_for (fun _ _ => rfl) ?_
     refine ie_seq ?_
     refine ev_tail ?_
     walk_at "s8"
     refine attr_call_items (aC_items (by assumption)) ?_
     refine ⟨_, _, rfl, by walk_at "len", ?_⟩
     refine ⟨_, _, .lst rfl, .inr rfl, ?_⟩
     refine for_cons ?_
     walk_at "s6"
     refine xs_cons ?_
     refine ex_unpack2 (fun _ => rfl) (fun _ => rfl) ?_
     walk_at "s0"
     walk_at "s3"
     walk_at "s1"
    refine iha wf.2.1 (by omega) r (by omega) _ _ _ ra era (fun w ew hi => ?_) fun hn => ?_
    · with_reducible
       refine ⟨_, _, .tup rfl, ?_⟩
       walk_at "s6"
       walk_at "s6"
       refine' xs_if0 ?_
       refine ts_not ?_
       refine' ts_l ?l_3 ?u_3 ?_; (case l_3 => walk_at "lk"); (case u_3 => walk_at "und")
       refine tru_bool ?_
       walk_at "s9"
       refine' xs_do (fun _ => rfl) ?_
       refine ev_append (fun _ => rfl) (fun _ => rfl) rfl (fun _ => rfl) ?_
       walk_at "s5"
       refine ⟨_, rfl, ⟨_, by walk_at "mem"⟩, ?_⟩
       walk_at "s5"
       refine ⟨_, _, (by walk_at "su" : SU _ _ _ _ _), by walk_at "len", ?_⟩
       refine xs_nil ?_
       refine for_cons ?_
       walk_at "s6"
       refine xs_cons ?_
       refine ex_unpack2 (fun _ => rfl) (fun _ => rfl) ?_
       walk_at "s0"
       walk_at "s3"
       walk_at "s1"
      refine ihb wf.2.2 (by omega) r (by omega) _ _ _ rb erb (fun w' ew' hi' => ?_) fun hn => ?_
      · obtain ⟨sk, hr⟩ := e3 w w' ew ew'
        have B : BinPre op w w' := pre_ok (bd_le (h := max a.ht b.ht) (by omega)) ((reck_ok wf.2.1 (era.trans (by rw [ew]))).mono (bd_mono hta)) ((reck_ok wf.2.2 (erb.trans (by rw [ew']))).mono (bd_mono htb)) sk
        with_reducible
         refine ⟨_, _, .tup rfl, ?_⟩
         walk_at "s6"
         walk_at "s6"
         refine' xs_if0 ?_
         refine ts_not ?_
         refine' ts_l ?l_4 ?u_4 ?_; (case l_4 => walk_at "lk"); (case u_4 => walk_at "und")
         refine tru_bool ?_
         walk_at "s9"
         refine' xs_do (fun _ => rfl) ?_
         refine ev_append (fun _ => rfl) (fun _ => rfl) rfl (fun _ => rfl) ?_
         walk_at "s5"
         refine ⟨_, rfl, ⟨_, by walk_at "mem"⟩, ?_⟩
         walk_at "s5"
         refine ⟨_, _, (by walk_at "su" : SU _ _ _ _ _), by walk_at "len", ?_⟩
         refine xs_nil ?_
         refine for_nil ?_
         walk_at "s16"
         walk_at "s0"
         walk_at "s3"
         walk_at "s1"
        refine c_call_value_2 hK VNE VNE (bin_ok hK wf.1 B) (fun z ez => ?_) fun ez => ?_
        · with_reducible
           walk_at "s6"
           refine' xs_if0 ?_
           walk_at "s15"
           refine ways_f rfl ?_
           refine' xs_ret ?_
           refine ev_tuple_a ?_
           refine es_cons (fun _ => rfl) ?_
           refine ev_cbool ?_
           walk_at "s19"
           walk_at "s0"
           walk_at "s1"
           apply c_share; iterate 1 walk_at "side"
           walk_at "s17"
           refine ⟨_, TupOf.tup, ?_⟩
           refine ⟨_, List.sublist_cons_self _ _, ?_⟩
          exact k1 z (hr.trans ez) (by rw [hi, hi']; rfl)
        · with_reducible
           walk_at "s6"
           refine' xs_if0 ?_
           walk_at "s15"
           walk_at "s14"
           refine' xs_ret ?_
           refine ev_tuple_a ?_
           refine es_cons (fun _ => rfl) ?_
           refine ev_cbool ?_
           walk_at "s19"
           refine ev_cnone ?_
           walk_at "s18"
           refine ⟨_, TupOf.d rfl, ?_⟩
           refine ⟨_, List.sublist_cons_self _ _, ?_⟩
          exact k0 (.inl (hr.trans ez))
      · with_reducible
         refine ⟨_, _, .dt rfl, ?_⟩
         walk_at "s6"
         walk_at "s6"
         refine' xs_if0 ?_
         refine ts_not ?_
         refine' ts_l ?l_5 ?u_5 ?_; (case l_5 => walk_at "lk"); (case u_5 => walk_at "und")
         refine tru_bool ?_
         walk_at "s14"
         refine' xs_ret ?_
         refine ev_tuple_a ?_
         refine es_cons (fun _ => rfl) ?_
         refine ev_cbool ?_
         walk_at "s19"
         refine ev_cnone ?_
         walk_at "s18"
         refine ⟨_, TupOf.d rfl, ?_⟩
         refine ⟨_, List.sublist_cons_self _ _, ?_⟩
        exact k0 (hn.elim (fun z => .inl (e2 z)) fun z => .inr (by rw [z, Bool.and_false]))
    · with_reducible
       refine ⟨_, _, .dt rfl, ?_⟩
       walk_at "s6"
       walk_at "s6"
       refine' xs_if0 ?_
       refine ts_not ?_
       refine' ts_l ?l_6 ?u_6 ?_; (case l_6 => walk_at "lk"); (case u_6 => walk_at "und")
       refine tru_bool ?_
       walk_at "s14"
       refine' xs_ret ?_
       refine ev_tuple_a ?_
       refine es_cons (fun _ => rfl) ?_
       refine ev_cbool ?_
       walk_at "s19"
       refine ev_cnone ?_
       walk_at "s18"
       refine ⟨_, TupOf.d rfl, ?_⟩
       refine ⟨_, List.sublist_cons_self _ _, ?_⟩
      exact k0 (hn.elim (fun z => .inl (e1 z)) fun z => .inr (by rw [z]; rfl))
end fld
theorem c_fold (hK : cx.K = HK P) {ss : List Str} (h1 : PyData.canLayAll0 (ss.map .str) = true) (hd : PyData.depthAll (ss.map .str) ≤ 8) (hf : ss.contains "f" = false) : ∀ t : Tr, FoldOK cx ss t
  | .leaf u => fold_leaf hK u
  | .x => fold_x hK
  | .un _ _ true => fold_un_t hK
  | .un _ t false => fold_un hK h1 hd hf (c_fold hK h1 hd hf t)
  | .bin _ _ _ true => fold_bin_t hK
  | .bin _ a b false => fold_bin hK h1 hd (c_fold hK h1 hd hf a) (c_fold hK h1 hd hf b)
noncomputable def addN (op : Str) (l : List Str) : List Str := if l.contains op then l else l ++ [op]
noncomputable def uses : Tr → List Str → List Str
  | .leaf _, l => l
  | .x, l => l
  | .un op t _, l => uses t (addN op l)
  | .bin op a b _, l => uses b (uses a (addN op l))
noncomputable def usesL (ts : List Tr) (l : List Str) : List Str := ts.foldl (fun l t => uses t l) l
noncomputable def Tr.nn : Tr → Nat
  | .leaf _ => 1
  | .x => 1
  | .un _ t _ => t.nn + 1
  | .bin _ a b _ => a.nn + b.nn + 1
noncomputable def nnL : List Tr → Nat
  | [] => 0
  | t :: ts => t.nn + nnL ts
theorem nn_pos : ∀ t : Tr, 0 < t.nn
  | .leaf _ => Nat.one_pos
  | .x => Nat.one_pos
  | .un .. => Nat.succ_pos _
  | .bin .. => Nat.succ_pos _
theorem len_nnL : ∀ ts : List Tr, ts.length ≤ nnL ts
  | [] => Nat.le_refl _
  | t :: ts => by have := nn_pos t; have := len_nnL ts; simp only [List.length_cons, nnL]; omega
theorem unD_map : ∀ ps : List PyData, unD (ps.map .d) = some ps
  | [] => rfl
  | p :: ps => by simp only [List.map_cons, unD, unD_map ps, Option.map_some]
theorem lay_strs : ∀ {l : List Str}, (∀ x ∈ l, PyData.canLay0 (.str x) = true) → PyData.canLayAll0 (l.map .str) = true
  | [], _ => by simp [PyData.canLayAll0]
  | x :: l, h => by simp only [List.map_cons, PyData.canLayAll0, h x List.mem_cons_self, lay_strs fun y m => h y (List.mem_cons_of_mem _ m), Bool.and_self]
theorem depth_strs : ∀ l : List Str, PyData.depthAll (l.map .str) ≤ 1
  | [] => by simp [PyData.depthAll]
  | x :: l => by
    have := depth_strs l
    simp only [List.map_cons, PyData.depthAll, PyData.depth]
    omega
noncomputable abbrev nmL (l : List Str) : List AV := (l.map PyData.str).map .d
theorem nmL_add {l : List Str} {op : Str} : nmL l ++ [S op] = nmL (l ++ [op]) := by simp [nmL]
noncomputable def okN (l : List Str) : Prop := ∀ x ∈ l, PyData.canLay0 (.str x) = true
theorem okN.add {l : List Str} {op : Str} (h : okN l) (k : PyData.canLay0 (.str op) = true) : okN (addN op l) := by
  unfold addN
  split
  · exact h
  · intro x m
    rcases List.mem_append.mp m with m | m
    · exact h x m
    · rw [List.mem_singleton.mp m]; exact k
theorem addN_len {l : List Str} {op : Str} : (addN op l).length ≤ l.length + 1 := by unfold addN; split <;> simp
theorem wf_lay_un {op : Str} (h : op = "-" ∨ op = "!" ∨ op = "(" ∨ op = "f") : PyData.canLay0 (.str op) = true := by rcases h with rfl | rfl | rfl | rfl <;> decide +kernel
theorem wf_lay_bin {op : Str} (h : arN op ∨ cmN op ∨ op = "&" ∨ op = "|") : PyData.canLay0 (.str op) = true := by
  rcases h with z | z | z
  · rcases z with rfl | rfl | rfl | rfl | rfl | rfl | rfl <;> decide +kernel
  · rcases z with rfl | rfl | rfl | rfl <;> decide +kernel
  · rcases z with rfl | rfl <;> decide +kernel
theorem kd_lang : ∀ u : Lf, (u.kd != ("language" : Str)) = true
  | .w false _ => by show (Str.ofString "integer" != Str.ofString "language") = true; decide +kernel
  | .w true _ => by show (Str.ofString "logical" != Str.ofString "language") = true; decide +kernel
  | .d _ _ => by show (Str.ofString "double" != Str.ofString "language") = true; decide +kernel
  | .c => by show (Str.ofString "character" != Str.ofString "language") = true; decide +kernel
noncomputable def FUi (t0 : Tr) (na pa : Addr) (σ0 : Sig) (i : List Tr × List Str) (ma : Loc) (σ : Sig) : Prop :=
  (∃ nd it, ma = ([("e", VT t0), ("names", .lref na), ("pending", .lref pa), ("node", nd), ("item", it)] : List (Str × AV))) ∧ σ = (pa, i.1.reverse.map VT) :: (na, nmL i.2) :: σ0 ∧ (∀ t ∈ i.1, t.WF) ∧ okN i.2 ∧ i.2.length + nnL i.1 ≤ 900 ∧ usesL i.1 i.2 = uses t0 []
section frz
theorem c_fold_uses (hK : cx.K = HK P) {t : Tr} (wf : t.WF) (hn : t.nn ≤ 100) (k : K (.d (.list ((uses t []).map .str))) σ) : CalTo cx (r + 2) KE (.fn "fold_uses") [VT t] σ K := by
  have hne : VT t ≠ .undef := VTne
  refine go1 "e" [("names", .undef), ("pending", .undef), ("node", .undef), ("item", .undef)] [("len", .cv (.builtin "len")), ("reversed", .cv (.type "reversed"))] rfl hK (fo_fold_uses _) (by decide +kernel) (GS.cons (gvb_len hK) (GS.cons (gvb_reversed hK) GS.nil)) ?_
  conv => arg 6; whnf
  with_reducible
   walk_at "s16"
   refine ev_list_m (es := []) ?_
   refine es_nil ?_
   walk_at "s18"
   intro
   walk_at "s6"
   walk_at "s16"
  refine ev_list_m ?_
  with_reducible
   walk_at "s1"
   walk_at "s17"
   intro
   walk_at "s6"
   refine xs_cons ?_
   refine ex_while ?_
  rename_i na pa
  refine wl_inv (FUi t na pa σ) (fun i => nnL i.1) ?_ ([t], []) _ _ ⟨⟨_, _, rfl⟩, rfl, fun u m => by rw [List.mem_singleton.mp m]; exact wf, fun _ m => (by cases m), by simp [nnL]; omega, rfl⟩
  rintro ⟨ts, l⟩ ma τ ⟨⟨nd, it, rfl⟩, rfl, hw, hl, hc, he⟩
  cases ts with
  | nil =>
    have k' : K (.d (.list (l.map .str))) σ := by rw [show l = uses t [] from he]; exact k
    with_reducible
     refine' ts_cmp_i rfl ?_
     walk_at "s0"
     walk_at "s1"
     refine bl_len_lref (by walk_at "mem") (by walk_at "len") ?_
     refine cmp_gt_int ?_
     refine ways_f rfl ?_
     refine' xs_ret_frz ?lk_1 ?rm_1 ?hp_1 ?_; (case lk_1 => walk_at "lk"); (case rm_1 => walk_at "rem"); (case hp_1 => exact unD_map _)
     refine ⟨_, List.sublist_cons_self _ _, ?_⟩
    exact k'
  | cons u ts =>
    have hpos := nn_pos u
    have hlen := len_nnL ts
    have hc' : l.length + (u.nn + nnL ts) ≤ 900 := hc
    have wu := hw u List.mem_cons_self
    have hwt : ∀ v ∈ ts, v.WF := fun v m => hw v (List.mem_cons_of_mem _ m)
    have hv : VT u ≠ .undef := VTne
    have e1 : (u :: ts).reverse.map VT = ts.reverse.map VT ++ [VT u] := by simp
    have hl1 : (ts.reverse.map VT).length < 1000 := by simp; omega
    simp only [e1]
    cases u with
    | leaf w =>
      have hk := kd_lang w
      show TsTo cx _ _ _ _ _ ((pa, _ ++ [V w]) :: _) _
      with_reducible
       refine' ts_cmp_i rfl ?_
       walk_at "s0"
       walk_at "s1"
       refine bl_len_lref (by walk_at "mem") (by walk_at "len") ?_
       refine cmp_gt_int ?_
       refine ways_t (by simp; first | done | omega) ?_
       walk_at "s16"
       refine ev_pop (fun _ => rfl) (fun _ => rfl) rfl (fun _ => rfl) ?_
       walk_at "s5"
       refine ⟨_, _, _, _, rfl, (by walk_at "su" : SU _ _ _ _ _), by assumption, ?_⟩
       walk_at "s6"
       refine' xs_if0 ?_
       refine' ts_cmp_s rfl ?_
       walk_at "s8"
       refine attr_vec_kind (aV_kind (by assumption)) ?_
       refine cmp_ne_str ?_
       refine ways_t (by with_reducible assumption) ?_
       refine xs_cons ?_
       refine ex_cont ?_
      exact ⟨(ts, l), by show nnL ts < _ + nnL ts; omega, ⟨_, _, rfl⟩, rfl, hwt, hl, by simp only []; omega, he⟩
    | x =>
      show TsTo cx _ _ _ _ _ ((pa, _ ++ [.sym "x"]) :: _) _
      with_reducible
       refine' ts_cmp_i rfl ?_
       walk_at "s0"
       walk_at "s1"
       refine bl_len_lref (by walk_at "mem") (by walk_at "len") ?_
       refine cmp_gt_int ?_
       refine ways_t (by simp; first | done | omega) ?_
       walk_at "s16"
       refine ev_pop (fun _ => rfl) (fun _ => rfl) rfl (fun _ => rfl) ?_
       walk_at "s5"
       refine ⟨_, _, _, _, rfl, (by walk_at "su" : SU _ _ _ _ _), by assumption, ?_⟩
       walk_at "s6"
       refine' xs_if0 ?_
       refine' ts_cmp_s rfl ?_
       walk_at "s8"
       refine attr_sym_kind (aS_kind (by assumption)) ?_
       refine cmp_ne_str ?_
       walk_at "s14"
       refine xs_cons ?_
       refine ex_cont ?_
      exact ⟨(ts, l), by show nnL ts < _ + nnL ts; omega, ⟨_, _, rfl⟩, rfl, hwt, hl, by simp only []; omega, he⟩
    | un op s tag =>
      have lo := wf_lay_un wu.1
      have hvs : VT s ≠ .undef := VTne
      have hll : (nmL l).length ≤ 1000 := by simp [nmL]; omega
      have hl2 : (ts.reverse.map VT).length ≤ 1000 := by omega
      have hal := addN_len (l := l) (op := op)
      have fin : Again (FUi t na pa σ) (fun i => nnL i.1) (.un op s tag :: ts, l) = Again (FUi t na pa σ) (fun i => nnL i.1) (.un op s tag :: ts, l) := rfl
      show TsTo cx _ _ _ _ _ ((pa, _ ++ [.call [.sym op, VT s] [.none, tagP tag]]) :: _) _
      with_reducible
       refine' ts_cmp_i rfl ?_
       walk_at "s0"
       walk_at "s1"
       refine bl_len_lref (by walk_at "mem") (by walk_at "len") ?_
       refine cmp_gt_int ?_
       refine ways_t (by simp; first | done | omega) ?_
       walk_at "s16"
       refine ev_pop (fun _ => rfl) (fun _ => rfl) rfl (fun _ => rfl) ?_
       walk_at "s5"
       refine ⟨_, _, _, _, rfl, (by walk_at "su" : SU _ _ _ _ _), by assumption, ?_⟩
       walk_at "s6"
       refine' xs_if0 ?_
       refine' ts_cmp_s rfl ?_
       walk_at "s8"
       refine attr_call_kind (aC_kind (by assumption)) ?_
       refine cmp_ne_str ?_
       walk_at "s9"
       refine' xs_if0 ?_
       refine ts_cmp rfl ?_
       refine ev_attr (fun _ _ => rfl) ?_
       refine ev_sub (fun _ _ => ⟨_, rfl⟩) ?_
       walk_at "s8"
       refine attr_call_items (aC_items (by assumption)) ?_
       refine ev_cint ?_
       refine' it_lst ?h_2 ?_; (case h_2 => with_unfolding_all exact rfl)
       refine attr_sym_name (aS_name (by assumption)) ?_
       walk_at "s5"
      refine cmp_in_lref (by walk_at "mem") (lay_strs hl) lo (Nat.le_trans (depth_strs l) (by decide)) (.inr rfl) ?_
      show Ways (!(List.map PyData.str l).any _) _ _
      rw [any_str]
      have stp : ∀ it', Again (FUi t na pa σ) (fun i => nnL i.1) (.un op s tag :: ts, l) [("e", VT t), ("names", .lref na), ("pending", .lref pa), ("node", .call [.sym op, VT s] [.none, tagP tag]), ("item", it')] ((pa, ts.reverse.map VT ++ [VT s]) :: (na, nmL (addN op l)) :: σ) := fun it' =>
        ⟨(s :: ts, addN op l), by show s.nn + nnL ts < s.nn + 1 + nnL ts; omega, ⟨_, _, rfl⟩, by simp, fun v m => (List.mem_cons.mp m).elim (fun z => z ▸ wu.2) (hwt v), okN.add hl lo, by show (addN op l).length + (s.nn + nnL ts) ≤ 900; have : l.length + (s.nn + 1 + nnL ts) ≤ 900 := hc; omega, he⟩
      refine ⟨fun h => ?_, fun h => ?_⟩
      · have ea : addN op l = l ++ [op] := by rw [addN, if_neg (by simpa using h)]
        rw [ea, ← nmL_add] at stp
        with_reducible
         refine' xs_do (fun _ => rfl) ?_
         refine ev_append (fun _ => rfl) (fun _ => rfl) rfl (fun _ => rfl) ?_
         walk_at "s5"
         refine ⟨_, rfl, ⟨_, by walk_at "mem"⟩, ?_⟩
         refine ev_attr (fun _ _ => rfl) ?_
         refine ev_sub (fun _ _ => ⟨_, rfl⟩) ?_
         walk_at "s8"
         refine attr_call_items (aC_items (by assumption)) ?_
         refine ev_cint ?_
         refine' it_lst ?h_3 ?_; (case h_3 => with_unfolding_all exact rfl)
         refine attr_sym_name (aS_name (by assumption)) ?_
         refine ⟨_, _, (by walk_at "su" : SU _ _ _ _ _), by walk_at "len", ?_⟩
         refine xs_nil ?_
         refine xs_cons ?_
         refine ex_for (fun _ _ => rfl) ?_
         refine ie_rev (fun _ => rfl) ?_
         refine' ev_global ?h_4 ?_; (case h_4 => walk_at "lk")
         refine ⟨?_, ?_⟩
         rfl
         refine ev_tail ?_
         walk_at "s8"
         refine attr_call_items (aC_items (by assumption)) ?_
         refine ⟨_, _, rfl, by walk_at "len", ?_⟩
         refine ⟨_, SeqAV.lst rfl, ?_⟩
        refine for_cons ?_
        with_reducible
         walk_at "s6"
         refine' xs_do (fun _ => rfl) ?_
         refine ev_append (fun _ => rfl) (fun _ => rfl) rfl (fun _ => rfl) ?_
         walk_at "s5"
         refine ⟨_, rfl, ⟨_, by walk_at "mem"⟩, ?_⟩
         walk_at "s5"
         refine ⟨_, _, (by walk_at "su" : SU _ _ _ _ _), by walk_at "len", ?_⟩
         refine xs_nil ?_
         refine for_nil ?_
         refine xs_nil ?_
        exact stp _
      · have ea : addN op l = l := by rw [addN, if_pos (by simpa using h)]
        rw [ea] at stp
        with_reducible
         refine xs_cons ?_
         refine ex_for (fun _ _ => rfl) ?_
         refine ie_rev (fun _ => rfl) ?_
         refine' ev_global ?h_5 ?_; (case h_5 => walk_at "lk")
         refine ⟨?_, ?_⟩
         rfl
         refine ev_tail ?_
         walk_at "s8"
         refine attr_call_items (aC_items (by assumption)) ?_
         refine ⟨_, _, rfl, by walk_at "len", ?_⟩
         refine ⟨_, SeqAV.lst rfl, ?_⟩
        refine for_cons ?_
        with_reducible
         walk_at "s6"
         refine' xs_do (fun _ => rfl) ?_
         refine ev_append (fun _ => rfl) (fun _ => rfl) rfl (fun _ => rfl) ?_
         walk_at "s5"
         refine ⟨_, rfl, ⟨_, by walk_at "mem"⟩, ?_⟩
         walk_at "s5"
         refine ⟨_, _, (by walk_at "su" : SU _ _ _ _ _), by walk_at "len", ?_⟩
         refine xs_nil ?_
         refine for_nil ?_
         refine xs_nil ?_
        exact stp _
    | bin op a b tag =>
      have lo := wf_lay_bin wu.1
      have hvb : VT a ≠ .undef := VTne
      have hvs : VT b ≠ .undef := VTne
      have hll : (nmL l).length ≤ 1000 := by simp [nmL]; omega
      have hl2 : (ts.reverse.map VT).length ≤ 999 := by omega
      have hal := addN_len (l := l) (op := op)
      show TsTo cx _ _ _ _ _ ((pa, _ ++ [.call [.sym op, VT a, VT b] [.none, tagP tag, .none]]) :: _) _
      with_reducible
       refine' ts_cmp_i rfl ?_
       walk_at "s0"
       walk_at "s1"
       refine bl_len_lref (by walk_at "mem") (by walk_at "len") ?_
       refine cmp_gt_int ?_
       refine ways_t (by simp; first | done | omega) ?_
       walk_at "s16"
       refine ev_pop (fun _ => rfl) (fun _ => rfl) rfl (fun _ => rfl) ?_
       walk_at "s5"
       refine ⟨_, _, _, _, rfl, (by walk_at "su" : SU _ _ _ _ _), by assumption, ?_⟩
       walk_at "s6"
       refine' xs_if0 ?_
       refine' ts_cmp_s rfl ?_
       walk_at "s8"
       refine attr_call_kind (aC_kind (by assumption)) ?_
       refine cmp_ne_str ?_
       walk_at "s9"
       refine' xs_if0 ?_
       refine ts_cmp rfl ?_
       refine ev_attr (fun _ _ => rfl) ?_
       refine ev_sub (fun _ _ => ⟨_, rfl⟩) ?_
       walk_at "s8"
       refine attr_call_items (aC_items (by assumption)) ?_
       refine ev_cint ?_
       refine' it_lst ?h_6 ?_; (case h_6 => with_unfolding_all exact rfl)
       refine attr_sym_name (aS_name (by assumption)) ?_
       walk_at "s5"
      refine cmp_in_lref (by walk_at "mem") (lay_strs hl) lo (Nat.le_trans (depth_strs l) (by decide)) (.inr rfl) ?_
      show Ways (!(List.map PyData.str l).any _) _ _
      rw [any_str]
      have stp : ∀ it', Again (FUi t na pa σ) (fun i => nnL i.1) (.bin op a b tag :: ts, l) [("e", VT t), ("names", .lref na), ("pending", .lref pa), ("node", .call [.sym op, VT a, VT b] [.none, tagP tag, .none]), ("item", it')] ((pa, ts.reverse.map VT ++ [VT b] ++ [VT a]) :: (na, nmL (addN op l)) :: σ) := fun it' =>
        ⟨(a :: b :: ts, addN op l), by show a.nn + (b.nn + nnL ts) < a.nn + b.nn + 1 + nnL ts; omega, ⟨_, _, rfl⟩, by simp, fun v m => (List.mem_cons.mp m).elim (fun z => z ▸ wu.2.1) fun m => (List.mem_cons.mp m).elim (fun z => z ▸ wu.2.2) (hwt v), okN.add hl lo, by show (addN op l).length + (a.nn + (b.nn + nnL ts)) ≤ 900; have : l.length + (a.nn + b.nn + 1 + nnL ts) ≤ 900 := hc; omega, he⟩
      refine ⟨fun h => ?_, fun h => ?_⟩
      · have ea : addN op l = l ++ [op] := by rw [addN, if_neg (by simpa using h)]
        rw [ea, ← nmL_add] at stp
        with_reducible
         refine' xs_do (fun _ => rfl) ?_
         refine ev_append (fun _ => rfl) (fun _ => rfl) rfl (fun _ => rfl) ?_
         walk_at "s5"
         refine ⟨_, rfl, ⟨_, by walk_at "mem"⟩, ?_⟩
         refine ev_attr (fun _ _ => rfl) ?_
         refine ev_sub (fun _ _ => ⟨_, rfl⟩) ?_
         walk_at "s8"
         refine attr_call_items (aC_items (by assumption)) ?_
         refine ev_cint ?_
         refine' it_lst ?h_7 ?_; (case h_7 => with_unfolding_all exact rfl)
         refine attr_sym_name (aS_name (by assumption)) ?_
         refine ⟨_, _, (by walk_at "su" : SU _ _ _ _ _), by walk_at "len", ?_⟩
         refine xs_nil ?_
         refine xs_cons ?_
         refine ex_for (fun _ _ => rfl) ?_
         refine ie_rev (fun _ => rfl) ?_
         refine' ev_global ?h_8 ?_; (case h_8 => walk_at "lk")
         refine ⟨?_, ?_⟩
         rfl
         refine ev_tail ?_
         walk_at "s8"
         refine attr_call_items (aC_items (by assumption)) ?_
         refine ⟨_, _, rfl, by walk_at "len", ?_⟩
         refine ⟨_, SeqAV.lst rfl, ?_⟩
        refine for_cons ?_
        with_reducible
         walk_at "s6"
         refine' xs_do (fun _ => rfl) ?_
         refine ev_append (fun _ => rfl) (fun _ => rfl) rfl (fun _ => rfl) ?_
         walk_at "s5"
         refine ⟨_, rfl, ⟨_, by walk_at "mem"⟩, ?_⟩
         walk_at "s5"
         refine ⟨_, _, (by walk_at "su" : SU _ _ _ _ _), by walk_at "len", ?_⟩
         refine xs_nil ?_
         refine for_cons ?_
         walk_at "s6"
         refine' xs_do (fun _ => rfl) ?_
         refine ev_append (fun _ => rfl) (fun _ => rfl) rfl (fun _ => rfl) ?_
         walk_at "s5"
         refine ⟨_, rfl, ⟨_, by walk_at "mem"⟩, ?_⟩
         walk_at "s5"
         refine ⟨_, _, (by walk_at "su" : SU _ _ _ _ _), by walk_at "len", ?_⟩
         refine xs_nil ?_
         refine for_nil ?_
         refine xs_nil ?_
        exact stp _
      · have ea : addN op l = l := by rw [addN, if_pos (by simpa using h)]
        rw [ea] at stp
        with_reducible
         refine xs_cons ?_
         refine ex_for (fun _ _ => rfl) ?_
         refine ie_rev (fun _ => rfl) ?_
         refine' ev_global ?h_9 ?_; (case h_9 => walk_at "lk")
         refine ⟨?_, ?_⟩
         rfl
         refine ev_tail ?_
         walk_at "s8"
         refine attr_call_items (aC_items (by assumption)) ?_
         refine ⟨_, _, rfl, by walk_at "len", ?_⟩
         refine ⟨_, SeqAV.lst rfl, ?_⟩
        refine for_cons ?_
        with_reducible
         walk_at "s6"
         refine' xs_do (fun _ => rfl) ?_
         refine ev_append (fun _ => rfl) (fun _ => rfl) rfl (fun _ => rfl) ?_
         walk_at "s5"
         refine ⟨_, rfl, ⟨_, by walk_at "mem"⟩, ?_⟩
         walk_at "s5"
         refine ⟨_, _, (by walk_at "su" : SU _ _ _ _ _), by walk_at "len", ?_⟩
         refine xs_nil ?_
         refine for_cons ?_
         walk_at "s6"
         refine' xs_do (fun _ => rfl) ?_
         refine ev_append (fun _ => rfl) (fun _ => rfl) rfl (fun _ => rfl) ?_
         walk_at "s5"
         refine ⟨_, rfl, ⟨_, by walk_at "mem"⟩, ?_⟩
         walk_at "s5"
         refine ⟨_, _, (by walk_at "su" : SU _ _ _ _ _), by walk_at "len", ?_⟩
         refine xs_nil ?_
         refine for_nil ?_
         refine xs_nil ?_
        exact stp _
end frz
noncomputable def TD : Tr → PyData
  | .leaf u => .tuple [.str u.kd, u.item]
  | .x => .tuple [.str "name", .str "x"]
  | .un op t tag => .tuple [.str "call", .str op, .list [TD t], .bool tag]
  | .bin op a b tag => .tuple [.str "call", .str op, .list [TD a, TD b], .bool tag]
theorem kd_call : ∀ u : Lf, (u.kd == ("call" : Str)) = false
  | .w false _ => by show (Str.ofString "integer" == Str.ofString "call") = false; decide +kernel
  | .w true _ => by show (Str.ofString "logical" == Str.ofString "call") = false; decide +kernel
  | .d _ _ => by show (Str.ofString "double" == Str.ofString "call") = false; decide +kernel
  | .c => by show (Str.ofString "character" == Str.ofString "call") = false; decide +kernel
noncomputable def UsesOK (cx : Cx) (t : Tr) : Prop := ∀ (r : Nat), t.ht ≤ r → ∀ (σ : Sig) (na : Addr) (l : List Str) (K : AV → Sig → Prop) (KE : Sig → Prop), t.WF → okN l → l.length + t.nn ≤ 900 → K (.lref na) ((na, nmL (uses t l)) :: σ) →
    CalTo cx (r + 1) KE (.fn "_law_uses") [.d (TD t), .lref na] ((na, nmL l) :: σ) K
theorem uses_okN : ∀ {t : Tr} {l : List Str}, t.WF → okN l → okN (uses t l)
  | .leaf _, _, _, h => h
  | .x, _, _, h => h
  | .un op t _, l, w, h => uses_okN (t := t) (l := addN op l) w.2 (h.add (wf_lay_un w.1))
  | .bin op a b _, l, w, h => uses_okN (t := b) (l := uses a (addN op l)) w.2.2 (uses_okN (t := a) (l := addN op l) w.2.1 (h.add (wf_lay_bin w.1)))
theorem uses_len : ∀ {t : Tr} {l : List Str}, (uses t l).length ≤ l.length + t.nn
  | .leaf _, _ => Nat.le_add_right _ _
  | .x, _ => Nat.le_add_right _ _
  | .un op t _, l => by
    have := uses_len (t := t) (l := addN op l); have := addN_len (l := l) (op := op)
    show (uses t (addN op l)).length ≤ l.length + (t.nn + 1); omega
  | .bin op a b _, l => by
    have := uses_len (t := b) (l := uses a (addN op l)); have := uses_len (t := a) (l := addN op l); have := addN_len (l := l) (op := op)
    show (uses b (uses a (addN op l))).length ≤ l.length + (a.nn + b.nn + 1); omega
theorem uses_leaf (hK : cx.K = HK P) (u : Lf) : UsesOK cx (.leaf u) := by
  intro r _ σ na l K KE _ _ _ k
  have hk := kd_call u
  show CalTo cx _ _ (.fn "_law_uses") [.d (.tuple [.str u.kd, u.item]), .lref na] _ _
  refine go2 "tree" "names" [("piece", .undef)] [("_law_uses", .fn "_law_uses")] rfl hK (fo_law_uses _) (by decide +kernel) (GS.cons (gv_law_uses hK) GS.nil) ?_
  conv => arg 6; whnf
  with_reducible
   refine' xs_if0 ?_
   refine' ts_cmp_s rfl ?_
   walk_at "s2"
   walk_at "s7"
   refine cmp_eq_str ?_
   walk_at "s24"
   walk_at "s22"
   walk_at "s10"
  exact k
theorem uses_x (hK : cx.K = HK P) : UsesOK cx .x := by
  intro r _ σ na l K KE _ _ _ k
  show CalTo cx _ _ (.fn "_law_uses") [.d (.tuple [.str "name", .str "x"]), .lref na] _ _
  refine go2 "tree" "names" [("piece", .undef)] [("_law_uses", .fn "_law_uses")] rfl hK (fo_law_uses _) (by decide +kernel) (GS.cons (gv_law_uses hK) GS.nil) ?_
  conv => arg 6; whnf
  with_reducible
   refine' xs_if0 ?_
   refine' ts_cmp_s rfl ?_
   walk_at "s2"
   walk_at "s7"
   refine cmp_eq_str ?_
   walk_at "s9"
   walk_at "s22"
   walk_at "s10"
  exact k
theorem uses_un (hK : cx.K = HK P) {op : Str} {t : Tr} {tag : Bool} (ih : UsesOK cx t) : UsesOK cx (.un op t tag) := by
  intro r hr σ na l K KE wf hl hn k
  have ht : t.ht + 1 ≤ r := hr
  have hn' : l.length + (t.nn + 1) ≤ 900 := hn
  have hal := addN_len (l := l) (op := op)
  obtain ⟨r, rfl⟩ := ex_pred ht
  have lo := wf_lay_un wf.1
  have hll : (nmL l).length ≤ 1000 := by simp [nmL]; omega
  show CalTo cx _ _ (.fn "_law_uses") [.d (.tuple [.str "call", .str op, .list [TD t], .bool tag]), .lref na] _ _
  refine go2 "tree" "names" [("piece", .undef)] [("_law_uses", .fn "_law_uses")] rfl hK (fo_law_uses _) (by decide +kernel) (GS.cons (gv_law_uses hK) GS.nil) ?_
  conv => arg 6; whnf
  with_reducible
   refine' xs_if0 ?_
   refine' ts_cmp_s rfl ?_
   walk_at "s2"
   walk_at "s7"
   refine cmp_eq_str ?_
   walk_at "s14"
   refine' xs_if0 ?_
   refine ts_cmp rfl ?_
   walk_at "s2"
   walk_at "s7"
   walk_at "s5"
  refine cmp_in_lref (by walk_at "mem") (lay_strs hl) lo (Nat.le_trans (depth_strs l) (by decide)) (.inr rfl) ?_
  show Ways (!(List.map PyData.str l).any _) _ _
  rw [any_str]
  refine ⟨fun h => ?_, fun h => ?_⟩
  · have ea : addN op l = l ++ [op] := by rw [addN, if_neg (by simpa using h)]
    with_reducible
     refine' xs_do (fun _ => rfl) ?_
     refine ev_append (fun _ => rfl) (fun _ => rfl) rfl (fun _ => rfl) ?_
     walk_at "s5"
     refine ⟨_, rfl, ⟨_, by walk_at "mem"⟩, ?_⟩
     walk_at "s2"
     walk_at "s7"
     refine ⟨_, _, (by walk_at "su" : SU _ _ _ _ _), by walk_at "len", ?_⟩
     refine xs_nil ?_
     refine xs_cons ?_
     refine ex_for (fun _ _ => rfl) ?_
     refine ie_seq ?_
     walk_at "s2"
     walk_at "s7"
     refine ⟨_, _, .dl rfl, .inr rfl, ?_⟩
    refine for_cons ?_
    with_reducible
     walk_at "s6"
     refine' xs_do (fun _ => rfl) ?_
     walk_at "s0"
     walk_at "s3"
     walk_at "s1"
    rw [nmL_add, ← ea]
    refine ih r (by omega) _ _ _ _ _ wf.2 (hl.add lo) (by omega) ?_
    with_reducible
     refine xs_nil ?_
    refine for_nil ?_
    with_reducible
     refine xs_nil ?_
     walk_at "s22"
     walk_at "s10"
    exact k
  · have ea : addN op l = l := by rw [addN, if_pos (by simpa using h)]
    with_reducible
     refine xs_cons ?_
     refine ex_for (fun _ _ => rfl) ?_
     refine ie_seq ?_
     walk_at "s2"
     walk_at "s7"
     refine ⟨_, _, .dl rfl, .inr rfl, ?_⟩
    refine for_cons ?_
    with_reducible
     walk_at "s6"
     refine' xs_do (fun _ => rfl) ?_
     walk_at "s0"
     walk_at "s3"
     walk_at "s1"
    refine ih r (by omega) _ _ _ _ _ wf.2 hl (by omega) ?_
    with_reducible
     refine xs_nil ?_
    refine for_nil ?_
    with_reducible
     refine xs_nil ?_
     walk_at "s22"
     walk_at "s10"
    rw [show uses (.un op t tag) l = uses t l by show uses t (addN op l) = _; rw [ea]] at k
    exact k
theorem uses_bin (hK : cx.K = HK P) {op : Str} {a b : Tr} {tag : Bool} (iha : UsesOK cx a) (ihb : UsesOK cx b) : UsesOK cx (.bin op a b tag) := by
  intro r hr σ na l K KE wf hl hn k
  have hm : max a.ht b.ht + 1 ≤ r := hr
  have hta : a.ht ≤ max a.ht b.ht := Nat.le_max_left _ _
  have htb : b.ht ≤ max a.ht b.ht := Nat.le_max_right _ _
  have hn' : l.length + (a.nn + b.nn + 1) ≤ 900 := hn
  have hal := addN_len (l := l) (op := op)
  have hul := uses_len (t := a) (l := addN op l)
  obtain ⟨r, rfl⟩ := ex_pred hm
  have lo := wf_lay_bin wf.1
  have hll : (nmL l).length ≤ 1000 := by simp [nmL]; omega
  have k' : K (.lref na) ((na, nmL (uses b (uses a (addN op l)))) :: σ) := k
  show CalTo cx _ _ (.fn "_law_uses") [.d (.tuple [.str "call", .str op, .list [TD a, TD b], .bool tag]), .lref na] _ _
  refine go2 "tree" "names" [("piece", .undef)] [("_law_uses", .fn "_law_uses")] rfl hK (fo_law_uses _) (by decide +kernel) (GS.cons (gv_law_uses hK) GS.nil) ?_
  conv => arg 6; whnf
  with_reducible
   refine' xs_if0 ?_
   refine' ts_cmp_s rfl ?_
   walk_at "s2"
   walk_at "s7"
   refine cmp_eq_str ?_
   walk_at "s14"
   refine' xs_if0 ?_
   refine ts_cmp rfl ?_
   walk_at "s2"
   walk_at "s7"
   walk_at "s5"
  refine cmp_in_lref (by walk_at "mem") (lay_strs hl) lo (Nat.le_trans (depth_strs l) (by decide)) (.inr rfl) ?_
  show Ways (!(List.map PyData.str l).any _) _ _
  rw [any_str]
  refine ⟨fun h => ?_, fun h => ?_⟩
  · have ea : addN op l = l ++ [op] := by rw [addN, if_neg (by simpa using h)]
    with_reducible
     refine' xs_do (fun _ => rfl) ?_
     refine ev_append (fun _ => rfl) (fun _ => rfl) rfl (fun _ => rfl) ?_
     walk_at "s5"
     refine ⟨_, rfl, ⟨_, by walk_at "mem"⟩, ?_⟩
     walk_at "s2"
     walk_at "s7"
     refine ⟨_, _, (by walk_at "su" : SU _ _ _ _ _), by walk_at "len", ?_⟩
     refine xs_nil ?_
     refine xs_cons ?_
     refine ex_for (fun _ _ => rfl) ?_
     refine ie_seq ?_
     walk_at "s2"
     walk_at "s7"
     refine ⟨_, _, .dl rfl, .inr rfl, ?_⟩
    refine for_cons ?_
    with_reducible
     walk_at "s6"
     refine' xs_do (fun _ => rfl) ?_
     walk_at "s0"
     walk_at "s3"
     walk_at "s1"
    rw [nmL_add, ← ea]
    refine iha r (by omega) _ _ _ _ _ wf.2.1 (hl.add lo) (by omega) ?_
    with_reducible
     refine xs_nil ?_
    refine for_cons ?_
    with_reducible
     walk_at "s6"
     refine' xs_do (fun _ => rfl) ?_
     walk_at "s0"
     walk_at "s3"
     walk_at "s1"
    refine ihb r (by omega) _ _ _ _ _ wf.2.2 (uses_okN wf.2.1 (hl.add lo)) (by omega) ?_
    with_reducible
     refine xs_nil ?_
    refine for_nil ?_
    with_reducible
     refine xs_nil ?_
     walk_at "s22"
     walk_at "s10"
    exact k'
  · have ea : addN op l = l := by rw [addN, if_pos (by simpa using h)]
    rw [ea] at k' hul
    with_reducible
     refine xs_cons ?_
     refine ex_for (fun _ _ => rfl) ?_
     refine ie_seq ?_
     walk_at "s2"
     walk_at "s7"
     refine ⟨_, _, .dl rfl, .inr rfl, ?_⟩
    refine for_cons ?_
    with_reducible
     walk_at "s6"
     refine' xs_do (fun _ => rfl) ?_
     walk_at "s0"
     walk_at "s3"
     walk_at "s1"
    refine iha r (by omega) _ _ _ _ _ wf.2.1 hl (by omega) ?_
    with_reducible
     refine xs_nil ?_
    refine for_cons ?_
    with_reducible
     walk_at "s6"
     refine' xs_do (fun _ => rfl) ?_
     walk_at "s0"
     walk_at "s3"
     walk_at "s1"
    refine ihb r (by omega) _ _ _ _ _ wf.2.2 (uses_okN wf.2.1 hl) (by omega) ?_
    with_reducible
     refine xs_nil ?_
    refine for_nil ?_
    with_reducible
     refine xs_nil ?_
     walk_at "s22"
     walk_at "s10"
    exact k'
theorem c_law_uses (hK : cx.K = HK P) : ∀ t : Tr, UsesOK cx t
  | .leaf u => uses_leaf hK u
  | .x => uses_x hK
  | .un _ t _ => uses_un hK (c_law_uses hK t)
  | .bin _ a b _ => uses_bin hK (c_law_uses hK a) (c_law_uses hK b)
noncomputable abbrev LD (u : Lf) : PyData := .tuple [.str u.kd, u.item]
noncomputable def RDi (n d : Int) (σ0 : Sig) (i : Nat × Nat) (ma : Loc) (σ : Sig) : Prop :=
  ma = ([("n", I n), ("d", I d), ("one", I i.1), ("two", I i.2)] : List (Str × AV)) ∧ σ = σ0 ∧ Nat.gcd i.1 i.2 = Nat.gcd n.natAbs d.natAbs
theorem ev_mono {cx : Cx} {e : Expr} {r : Nat} {G : Glo} {ma : Loc} {σ : Sig} {K K' : AV → Sig → Prop} {KE : Sig → Prop} (h : EvTo cx r G KE e ma σ K) (k : ∀ a σ', K a σ' → K' a σ') : EvTo cx r G KE e ma σ K' :=
  fun A env Pr g s Q E hr hf F J q qe => h A env Pr g s Q E hr hf F J (fun g' σ' s' av v k' => q g' σ' s' av v (k _ _ k')) qe
theorem c_law_reduced (hK : cx.K = HK P) {n d : Int} (hd : d ≠ 0) (hs : d.natAbs.log2 < 9000) (k : K (P2 (red n d).1 (red n d).2) σ) : CalTo cx (r + 1) KE (.fn "_law_reduced") [I n, I d] σ K := by
  have fin : ∀ (x : Int) (y : Nat), y = d.natAbs → x = (if d < 0 then -n else n) → K (P2 (x.fdiv (Nat.gcd x.natAbs (y : Int).natAbs : Nat)) ((y : Int).fdiv (Nat.gcd x.natAbs (y : Int).natAbs : Nat))) σ := fun x y hy hx => by
    have : (if d < 0 then -n else n).natAbs = n.natAbs := by split <;> simp
    rw [hx, hy, Int.natAbs_natCast, this]; exact k
  have hg : ∀ (x : Int) (y : Nat), y = d.natAbs → ((Nat.gcd x.natAbs (y : Int).natAbs : Nat) : Int) ≠ 0 ∧ ((Nat.gcd x.natAbs (y : Int).natAbs : Nat) : Int).natAbs.log2 < 9000 := fun x y hy => by
    subst hy
    rw [Int.natAbs_natCast, Int.natAbs_natCast]
    have := Nat.gcd_pos_of_pos_right x.natAbs (Int.natAbs_pos.mpr hd)
    exact ⟨by omega, log_gcd (by omega) hs⟩
  refine go2 "n" "d" [("one", .undef), ("two", .undef)] [("abs", .cv (.builtin "abs"))] rfl hK (fo_law_reduced _) (by decide +kernel) (GS.cons (gvb_abs hK) GS.nil) ?_
  conv => arg 6; whnf
  with_reducible
   refine' xs_if0 ?_
   refine' ts_cmp_li ?l_1 ?u_1 rfl ?_; (case l_1 => walk_at "lk"); (case u_1 => walk_at "und")
   refine cmp_lt_int ?_
  refine ⟨fun h => ?_, fun h => ?_⟩
  · have h : d < 0 := of_decide_eq_true h
    have e2 : -d = (d.natAbs : Nat) := by omega
    have fin := fin (-n) d.natAbs rfl (by rw [if_pos h])
    have hg := hg (-n) d.natAbs rfl
    with_reducible
     refine xs_cons ?_
    refine' ex_swap2 ?h1_2 ?h2_2 ?h3_2 ?h4_2 ?h5_2 ?h6_2 ?h7_2 ?_; (case h1_2 => decide); (case h2_2 => decide); (case h3_2 => decide); (case h4_2 => decide); (case h5_2 => rfl); (case h6_2 => rfl); (case h7_2 => rfl)
    with_reducible
     refine ev_tuple_a ?_
     refine es_cons (fun _ => rfl) ?_
     refine ev_neg ?_
     walk_at "s5"
     refine ⟨_, rfl, ?_⟩
     walk_at "s19"
     refine ev_neg ?_
     walk_at "s5"
     refine ⟨_, rfl, ?_⟩
     walk_at "s17"
     refine ⟨_, TupOf.d rfl, ?_⟩
     refine ⟨_, _, .dt rfl, ?_⟩
     walk_at "s6"
     walk_at "s6"
     refine xs_nil ?_
     refine xs_cons ?_
    refine' ex_swap2 ?h1_3 ?h2_3 ?h3_3 ?h4_3 ?h5_3 ?h6_3 ?h7_3 ?_; (case h1_3 => decide); (case h2_3 => decide); (case h3_3 => decide); (case h4_3 => decide); (case h5_3 => rfl); (case h6_3 => rfl); (case h7_3 => rfl)
    with_reducible
     refine ev_tuple_a ?_
     refine es_cons (fun _ => rfl) ?_
     walk_at "s0"
     walk_at "s1"
     refine bl_abs ?_
     walk_at "s1"
     walk_at "s17"
     refine ⟨_, TupOf.d rfl, ?_⟩
     refine ⟨_, _, .dt rfl, ?_⟩
     walk_at "s6"
     walk_at "s6"
     refine xs_cons ?_
     refine ex_while ?_
    rw [e2]
    refine wl_inv (RDi (-n) (d.natAbs : Nat) σ) (fun i => i.2) ?_ ((-n).natAbs, d.natAbs) _ _ ⟨rfl, rfl, rfl⟩
    rintro ⟨a, b⟩ ma τ ⟨rfl, rfl, hi⟩
    have hi : Nat.gcd a b = _ := hi
    with_reducible
     refine' ts_cmp_li ?l_4 ?u_4 rfl ?_; (case l_4 => walk_at "lk"); (case u_4 => walk_at "und")
     refine cmp_gt_int ?_
    refine ⟨fun h => ?_, fun h => ?_⟩
    · have hb : 0 < b := by simpa using h
      have hb' : (b : Int) ≠ 0 := by omega
      with_reducible
       refine xs_cons ?_
      refine' ex_swap2 ?h1_5 ?h2_5 ?h3_5 ?h4_5 ?h5_5 ?h6_5 ?h7_5 ?_; (case h1_5 => decide); (case h2_5 => decide); (case h3_5 => decide); (case h4_5 => decide); (case h5_5 => rfl); (case h6_5 => rfl); (case h7_5 => rfl)
      with_reducible
       refine ev_tuple_a ?_
       walk_at "s3"
       walk_at "s19"
       walk_at "s11"
       refine bin_mod (by first | assumption | omega | exact of_decide_eq_true rfl) ?_
       walk_at "s17"
       refine ⟨_, TupOf.d rfl, ?_⟩
       refine ⟨_, _, .dt rfl, ?_⟩
       walk_at "s6"
       walk_at "s6"
       refine xs_nil ?_
      exact ⟨(b, a % b), Nat.mod_lt _ hb, by rw [fmod_nat], rfl, by rw [← hi, Nat.gcd_comm a b, Nat.gcd_rec b a, Nat.gcd_comm]⟩
    · have hb : b = 0 := by simpa using h
      have ha : a = Nat.gcd (-n).natAbs ((d.natAbs : Nat) : Int).natAbs := by rw [← hi, hb]; simp
      obtain ⟨hg1, hg2⟩ := hg
      rw [← ha] at hg1 hg2 fin
      with_reducible
       refine' xs_ret ?_
       refine ev_tuple_a ?_
       refine es_cons (fun _ => rfl) ?_
       walk_at "s11"
       refine bin_div (by first | assumption | decide | omega) (by first | assumption | decide | omega) ?_
       walk_at "s19"
       walk_at "s11"
       refine bin_div (by first | assumption | decide | omega) (by first | assumption | decide | omega) ?_
       walk_at "s17"
       refine ⟨_, TupOf.d rfl, ?_⟩
       walk_at "s10"
      exact fin
  · have h : ¬ d < 0 := of_decide_eq_false h
    have e2 : d = (d.natAbs : Nat) := by omega
    have fin := fin n d.natAbs rfl (by rw [if_neg h])
    have hg := hg n d.natAbs rfl
    with_reducible
     refine xs_cons ?_
    refine' ex_swap2 ?h1_6 ?h2_6 ?h3_6 ?h4_6 ?h5_6 ?h6_6 ?h7_6 ?_; (case h1_6 => decide); (case h2_6 => decide); (case h3_6 => decide); (case h4_6 => decide); (case h5_6 => rfl); (case h6_6 => rfl); (case h7_6 => rfl)
    with_reducible
     refine ev_tuple_a ?_
     refine es_cons (fun _ => rfl) ?_
     walk_at "s0"
     walk_at "s1"
     refine bl_abs ?_
     walk_at "s1"
     walk_at "s17"
     refine ⟨_, TupOf.d rfl, ?_⟩
     refine ⟨_, _, .dt rfl, ?_⟩
     walk_at "s6"
     walk_at "s6"
     refine xs_cons ?_
     refine ex_while ?_
    rw [e2]
    refine wl_inv (RDi n (d.natAbs : Nat) σ) (fun i => i.2) ?_ (n.natAbs, d.natAbs) _ _ ⟨rfl, rfl, rfl⟩
    rintro ⟨a, b⟩ ma τ ⟨rfl, rfl, hi⟩
    have hi : Nat.gcd a b = _ := hi
    with_reducible
     refine' ts_cmp_li ?l_7 ?u_7 rfl ?_; (case l_7 => walk_at "lk"); (case u_7 => walk_at "und")
     refine cmp_gt_int ?_
    refine ⟨fun h => ?_, fun h => ?_⟩
    · have hb : 0 < b := by simpa using h
      have hb' : (b : Int) ≠ 0 := by omega
      with_reducible
       refine xs_cons ?_
      refine' ex_swap2 ?h1_8 ?h2_8 ?h3_8 ?h4_8 ?h5_8 ?h6_8 ?h7_8 ?_; (case h1_8 => decide); (case h2_8 => decide); (case h3_8 => decide); (case h4_8 => decide); (case h5_8 => rfl); (case h6_8 => rfl); (case h7_8 => rfl)
      with_reducible
       refine ev_tuple_a ?_
       walk_at "s3"
       walk_at "s19"
       walk_at "s11"
       refine bin_mod (by first | assumption | omega | exact of_decide_eq_true rfl) ?_
       walk_at "s17"
       refine ⟨_, TupOf.d rfl, ?_⟩
       refine ⟨_, _, .dt rfl, ?_⟩
       walk_at "s6"
       walk_at "s6"
       refine xs_nil ?_
      exact ⟨(b, a % b), Nat.mod_lt _ hb, by rw [fmod_nat], rfl, by rw [← hi, Nat.gcd_comm a b, Nat.gcd_rec b a, Nat.gcd_comm]⟩
    · have hb : b = 0 := by simpa using h
      have ha : a = Nat.gcd n.natAbs ((d.natAbs : Nat) : Int).natAbs := by rw [← hi, hb]; simp
      obtain ⟨hg1, hg2⟩ := hg
      rw [← ha] at hg1 hg2 fin
      with_reducible
       refine' xs_ret ?_
       refine ev_tuple_a ?_
       refine es_cons (fun _ => rfl) ?_
       walk_at "s11"
       refine bin_div (by first | assumption | decide | omega) (by first | assumption | decide | omega) ?_
       walk_at "s19"
       walk_at "s11"
       refine bin_div (by first | assumption | decide | omega) (by first | assumption | decide | omega) ?_
       walk_at "s17"
       refine ⟨_, TupOf.d rfl, ?_⟩
       walk_at "s10"
      exact fin
theorem c_law_pair (hK : cx.K = HK P) {u : Lf} (hu : u ≠ .c) (k : K (P2 u.pn u.pd) σ) : CalTo cx (r + 1) KE (.fn "_law_pair") [.d (LD u)] σ K := by
  match u, hu, k with
  | .w false n, _, k =>
    show CalTo cx _ _ (.fn "_law_pair") [.d (.tuple [.str "integer", .int n])] _ _
    refine go1 "side" [] [] rfl hK (fo_law_pair _) (by decide +kernel) (GS.nil) ?_
    conv => arg 6; whnf
    with_reducible
     refine' xs_ret ?_
     refine ev_ifexp ?_
     refine' ts_cmp_s rfl ?_
     walk_at "s2"
     walk_at "s7"
     refine cmp_eq_str ?_
     walk_at "s9"
     refine ev_tuple_a ?_
     refine es_cons (fun _ => rfl) ?_
     walk_at "s2"
     walk_at "s7"
     refine' es_i1 ?_
     walk_at "s17"
     refine ⟨_, TupOf.d rfl, ?_⟩
     walk_at "s10"
    exact k
  | .w true n, _, k =>
    show CalTo cx _ _ (.fn "_law_pair") [.d (.tuple [.str "logical", .int n])] _ _
    refine go1 "side" [] [] rfl hK (fo_law_pair _) (by decide +kernel) (GS.nil) ?_
    conv => arg 6; whnf
    with_reducible
     refine' xs_ret ?_
     refine ev_ifexp ?_
     refine' ts_cmp_s rfl ?_
     walk_at "s2"
     walk_at "s7"
     refine cmp_eq_str ?_
     walk_at "s9"
     refine ev_tuple_a ?_
     refine es_cons (fun _ => rfl) ?_
     walk_at "s2"
     walk_at "s7"
     refine' es_i1 ?_
     walk_at "s17"
     refine ⟨_, TupOf.d rfl, ?_⟩
     walk_at "s10"
    exact k
  | .d n m, _, k =>
    show CalTo cx _ _ (.fn "_law_pair") [.d (.tuple [.str "double", .tuple [.int n, .int m]])] _ _
    refine go1 "side" [] [] rfl hK (fo_law_pair _) (by decide +kernel) (GS.nil) ?_
    conv => arg 6; whnf
    with_reducible
     refine' xs_ret ?_
     refine ev_ifexp ?_
     refine' ts_cmp_s rfl ?_
     walk_at "s2"
     walk_at "s7"
     refine cmp_eq_str ?_
     walk_at "s14"
     walk_at "s2"
     walk_at "s7"
     walk_at "s10"
    exact k
  | .c, hu, _ => exact absurd rfl hu
noncomputable def SKIP : PyData := .tuple [.str "skip"]
theorem c_numbers_skip0 (hK : cx.K = HK P) {op : Str} {u v : Lf} (hu : u ≠ .c) (hv : v ≠ .c) (ho : op = "/" ∨ op = "%%" ∨ op = "%/%") (h0 : v.pn = 0) (k : K (.d SKIP) σ) : CalTo cx (r + 2) KE (.fn "_law_numbers") [S op, .d (LD u), .d (LD v)] σ K := by
  have lo : PyData.canLay0 (.str op) = true := by rcases ho with rfl | rfl | rfl <;> decide +kernel
  have hin : ([PyData.str "/", .str "%%", .str "%/%"].any fun y => PyData.eqv y (.str op)) = true := by rcases ho with rfl | rfl | rfl <;> decide +kernel
  refine go3 "name" "one" "two" [("a", .undef), ("b", .undef), ("c", .undef), ("d", .undef), ("floor_of", .undef), ("n", .undef), ("under", .undef)] [("_law_pair", .fn "_law_pair"), ("abs", .cv (.builtin "abs")), ("_law_reduced", .fn "_law_reduced")] rfl hK (fo_law_numbers _) (by decide +kernel) (GS.cons (gv_law_pair hK) (GS.cons (gvb_abs hK) (GS.cons (gv_law_reduced hK) GS.nil))) ?_
  conv => arg 6; whnf
  with_reducible
   refine xs_cons ?_
   refine ex_unpack2 (fun _ => rfl) (fun _ => rfl) ?_
   walk_at "s0"
   walk_at "s1"
   apply c_law_pair; iterate 2 walk_at "side"
   refine ⟨_, _, .dt rfl, ?_⟩
   walk_at "s6"
   walk_at "s6"
   refine xs_cons ?_
   refine ex_unpack2 (fun _ => rfl) (fun _ => rfl) ?_
   walk_at "s0"
   walk_at "s1"
   apply c_law_pair; iterate 2 walk_at "side"
   refine ⟨_, _, .dt rfl, ?_⟩
   walk_at "s6"
   walk_at "s6"
   refine' xs_if0 ?_
   refine ts_bool ?_
   refine bs_and ?_
   walk_at "s13"
   refine ev_list_a ?_
   refine' es_s ?_
   refine' es_s ?_
   refine' es_s1 ?_
   walk_at "s18"
   refine ⟨_, LstOf.d rfl, ?_⟩
   walk_at "s4"
   refine ways_t (by with_reducible assumption) ?_
   refine bs_and ?_
   refine' ts_eqi_l ?l_1 ?_; (case l_1 => walk_at "lk")
   refine ways_t (by simp; first | done | omega) ?_
   refine bs_and_nil ?_
   walk_at "s14"
   refine' xs_ret ?_
   refine ev_tuple_a ?_
   refine' es_s1 ?_
   walk_at "s18"
   refine ⟨_, TupOf.d rfl, ?_⟩
   walk_at "s10"
  exact k
theorem c_numbers_skip1 (hK : cx.K = HK P) {u v : Lf} (hu : u ≠ .c) (hv : v ≠ .c) (h0 : (v.pd != 1 || decide (3 < v.pn.natAbs) || (u.pn == 0 && decide (v.pn ≤ 0))) = true) (k : K (.d SKIP) σ) : CalTo cx (r + 2) KE (.fn "_law_numbers") [S "^", .d (LD u), .d (LD v)] σ K := by
  refine go3 "name" "one" "two" [("a", .undef), ("b", .undef), ("c", .undef), ("d", .undef), ("floor_of", .undef), ("n", .undef), ("under", .undef)] [("_law_pair", .fn "_law_pair"), ("abs", .cv (.builtin "abs")), ("_law_reduced", .fn "_law_reduced")] rfl hK (fo_law_numbers _) (by decide +kernel) (GS.cons (gv_law_pair hK) (GS.cons (gvb_abs hK) (GS.cons (gv_law_reduced hK) GS.nil))) ?_
  conv => arg 6; whnf
  with_reducible
   refine xs_cons ?_
   refine ex_unpack2 (fun _ => rfl) (fun _ => rfl) ?_
   walk_at "s0"
   walk_at "s1"
   apply c_law_pair; iterate 2 walk_at "side"
   refine ⟨_, _, .dt rfl, ?_⟩
   walk_at "s6"
   walk_at "s6"
   refine xs_cons ?_
   refine ex_unpack2 (fun _ => rfl) (fun _ => rfl) ?_
   walk_at "s0"
   walk_at "s1"
   apply c_law_pair; iterate 2 walk_at "side"
   refine ⟨_, _, .dt rfl, ?_⟩
   walk_at "s6"
   walk_at "s6"
   refine' xs_if0 ?_
   refine ts_bool ?_
   refine bs_and ?_
   walk_at "s13"
   refine ev_list_a ?_
   refine' es_s ?_
   refine' es_s ?_
   refine' es_s1 ?_
   walk_at "s18"
   refine ⟨_, LstOf.d rfl, ?_⟩
   walk_at "s4"
   walk_at "s9"
   walk_at "s9"
   refine' xs_if0 ?_
   refine ts_bool ?_
   refine bs_and ?_
   walk_at "s20"
   walk_at "s14"
   refine bs_and ?_
   refine ts_bool ?_
   refine bs_or ?_
   refine' ts_cmp_li ?l_1 ?u_1 rfl ?_; (case l_1 => walk_at "lk"); (case u_1 => walk_at "und")
   refine cmp_ne_int ?_
  refine ⟨fun h1 => ?_, fun h1 => ?_⟩
  · with_reducible
     walk_at "s14"
     refine bs_and_nil ?_
     walk_at "s14"
     refine' xs_ret ?_
     refine ev_tuple_a ?_
     refine' es_s1 ?_
     walk_at "s18"
     refine ⟨_, TupOf.d rfl, ?_⟩
     walk_at "s10"
    exact k
  · rw [h1, Bool.false_or] at h0
    with_reducible
     refine bs_or ?_
     refine' ts_cmp_i rfl ?_
     walk_at "s0"
     walk_at "s1"
     refine bl_abs ?_
     refine cmp_gt_int ?_
    refine ⟨fun h2 => ?_, fun h2 => ?_⟩
    · with_reducible
       walk_at "s14"
       refine bs_and_nil ?_
       walk_at "s14"
       refine' xs_ret ?_
       refine ev_tuple_a ?_
       refine' es_s1 ?_
       walk_at "s18"
       refine ⟨_, TupOf.d rfl, ?_⟩
       walk_at "s10"
      exact k
    · have h2 : ¬ (3 : Int) < (v.pn.natAbs : Nat) := of_decide_eq_false h2
      rw [decide_eq_false (show ¬ 3 < v.pn.natAbs by omega), Bool.false_or, Bool.and_eq_true] at h0
      obtain ⟨h3, h4⟩ := h0
      with_reducible
       refine bs_or ?_
       refine ts_bool ?_
       refine bs_and ?_
       refine' ts_eqi_l ?l_2 ?_; (case l_2 => walk_at "lk")
       refine ways_t (by with_reducible assumption) ?_
       refine bs_and ?_
       refine' ts_cmp_li ?l_3 ?u_3 rfl ?_; (case l_3 => walk_at "lk"); (case u_3 => walk_at "und")
       refine cmp_le_int ?_
       refine ways_t (by with_reducible assumption) ?_
       refine bs_and_nil ?_
       walk_at "s14"
       walk_at "s14"
       refine bs_and_nil ?_
       walk_at "s14"
       refine' xs_ret ?_
       refine ev_tuple_a ?_
       refine' es_s1 ?_
       walk_at "s18"
       refine ⟨_, TupOf.d rfl, ?_⟩
       walk_at "s10"
      exact k
theorem c_numbers_div (hK : cx.K = HK P) {u v : Lf} (hu : u ≠ .c) (hv : v ≠ .c) (pu : 0 < u.pd) (h0 : v.pn ≠ 0) (s1 : Sz 9000 u.pn) (s2 : Sz 4400 u.pd) (s3 : Sz 4400 v.pn) (s4 : Sz 4400 v.pd)
    (k : K (.d (LD (.d (red (u.pn * v.pd) (u.pd * v.pn)).1 (red (u.pn * v.pd) (u.pd * v.pn)).2))) σ) : CalTo cx (r + 2) KE (.fn "_law_numbers") [S "/", .d (LD u), .d (LD v)] σ K := by
  have o1 : IntMulOk u.pn v.pd := s1.ok (s4.mono (by decide))
  have o2 : IntMulOk u.pd v.pn := s2.ok s3
  have hne : u.pd * v.pn ≠ 0 := Int.mul_ne_zero (by omega) h0
  have hlg : (u.pd * v.pn).natAbs.log2 < 9000 := (s2.mul s3).log (by decide)
  refine go3 "name" "one" "two" [("a", .undef), ("b", .undef), ("c", .undef), ("d", .undef), ("floor_of", .undef), ("n", .undef), ("under", .undef)] [("_law_pair", .fn "_law_pair"), ("abs", .cv (.builtin "abs")), ("_law_reduced", .fn "_law_reduced")] rfl hK (fo_law_numbers _) (by decide +kernel) (GS.cons (gv_law_pair hK) (GS.cons (gvb_abs hK) (GS.cons (gv_law_reduced hK) GS.nil))) ?_
  conv => arg 6; whnf
  with_reducible
   refine xs_cons ?_
   refine ex_unpack2 (fun _ => rfl) (fun _ => rfl) ?_
   walk_at "s0"
   walk_at "s1"
   apply c_law_pair; iterate 2 walk_at "side"
   refine ⟨_, _, .dt rfl, ?_⟩
   walk_at "s6"
   walk_at "s6"
   refine xs_cons ?_
   refine ex_unpack2 (fun _ => rfl) (fun _ => rfl) ?_
   walk_at "s0"
   walk_at "s1"
   apply c_law_pair; iterate 2 walk_at "side"
   refine ⟨_, _, .dt rfl, ?_⟩
   walk_at "s6"
   walk_at "s6"
   refine' xs_if0 ?_
   refine ts_bool ?_
   refine bs_and ?_
   walk_at "s13"
   refine ev_list_a ?_
   refine' es_s ?_
   refine' es_s ?_
   refine' es_s1 ?_
   walk_at "s18"
   refine ⟨_, LstOf.d rfl, ?_⟩
   walk_at "s4"
   walk_at "s14"
   refine bs_and ?_
   refine' ts_eqi_l ?l_1 ?_; (case l_1 => walk_at "lk")
   refine ways_f (by simp; first | done | omega) ?_
   walk_at "s9"
   refine' xs_if0 ?_
   refine ts_bool ?_
   refine bs_and ?_
   walk_at "s20"
   walk_at "s9"
   walk_at "s9"
   refine' xs_if0 ?_
   walk_at "s20"
   walk_at "s14"
   refine' xs_ret ?_
   refine ev_tuple_a ?_
   refine' es_s ?_
   walk_at "s19"
   walk_at "s0"
   refine es_cons (fun _ => rfl) ?_
   walk_at "s11"
   walk_at "s21"
   walk_at "s19"
   walk_at "s11"
   walk_at "s21"
   apply c_law_reduced; iterate 3 walk_at "side"
   walk_at "s17"
   refine ⟨_, TupOf.d rfl, ?_⟩
   walk_at "s10"
  exact k
theorem c_numbers_pow (hK : cx.K = HK P) {u v : Lf} (hu : u ≠ .c) (hv : v ≠ .c) (pu : 0 < u.pd) (h1 : v.pd = 1) (h2 : -3 ≤ v.pn) (h3 : v.pn ≤ 3) (h4 : u.pn = 0 → 0 < v.pn) (s1 : Sz 2100 u.pn) (s2 : Sz 2100 u.pd)
    (k : K (.d (LD (.d (powL u.pn u.pd v.pn).1 (powL u.pn u.pd v.pn).2))) σ) : CalTo cx (r + 2) KE (.fn "_law_numbers") [S "^", .d (LD u), .d (LD v)] σ K := by
  have lim : ∀ x : Int, Sz 2100 x → ∀ y : Int, y ≤ 3 → 0 ≤ y → (Builtin.Int.intBits x : Int) * y ≤ 2 ^ 27 := fun x hx y hy h0 => by
    have h1 := hx.bits
    have : (Builtin.Int.intBits x : Int) * y ≤ 2100 * 3 := Int.mul_le_mul (by omega) hy h0 (by omega)
    exact Int.le_trans this (by decide)
  have pw : ∀ (x : Int) (n : Nat), n ≤ 3 → Sz 2100 x → x ≠ 0 → x ^ n ≠ 0 ∧ (x ^ n).natAbs.log2 < 9000 := fun x n hn hx h0 =>
    ⟨Int.pow_ne_zero h0, (hx.pow n).log (by omega)⟩
  have q1 : (v.pd != 1) = false := by simpa using h1
  have q2 : decide ((3 : Int) < (v.pn.natAbs : Nat)) = false := decide_eq_false (by omega)
  refine go3 "name" "one" "two" [("a", .undef), ("b", .undef), ("c", .undef), ("d", .undef), ("floor_of", .undef), ("n", .undef), ("under", .undef)] [("_law_pair", .fn "_law_pair"), ("abs", .cv (.builtin "abs")), ("_law_reduced", .fn "_law_reduced")] rfl hK (fo_law_numbers _) (by decide +kernel) (GS.cons (gv_law_pair hK) (GS.cons (gvb_abs hK) (GS.cons (gv_law_reduced hK) GS.nil))) ?_
  conv => arg 6; whnf
  with_reducible
   refine xs_cons ?_
   refine ex_unpack2 (fun _ => rfl) (fun _ => rfl) ?_
   walk_at "s0"
   walk_at "s1"
   apply c_law_pair; iterate 2 walk_at "side"
   refine ⟨_, _, .dt rfl, ?_⟩
   walk_at "s6"
   walk_at "s6"
   refine xs_cons ?_
   refine ex_unpack2 (fun _ => rfl) (fun _ => rfl) ?_
   walk_at "s0"
   walk_at "s1"
   apply c_law_pair; iterate 2 walk_at "side"
   refine ⟨_, _, .dt rfl, ?_⟩
   walk_at "s6"
   walk_at "s6"
   refine' xs_if0 ?_
   refine ts_bool ?_
   refine bs_and ?_
   walk_at "s13"
   refine ev_list_a ?_
   refine' es_s ?_
   refine' es_s ?_
   refine' es_s1 ?_
   walk_at "s18"
   refine ⟨_, LstOf.d rfl, ?_⟩
   walk_at "s4"
   walk_at "s9"
   walk_at "s9"
   refine' xs_if0 ?_
   refine ts_bool ?_
   refine bs_and ?_
   walk_at "s20"
   walk_at "s14"
   refine bs_and ?_
   refine ts_bool ?_
   refine bs_or ?_
   refine' ts_cmp_li ?l_1 ?u_1 rfl ?_; (case l_1 => walk_at "lk"); (case u_1 => walk_at "und")
   refine cmp_ne_int ?_
   walk_at "s24"
   refine bs_or ?_
   refine' ts_cmp_i rfl ?_
   walk_at "s0"
   walk_at "s1"
   refine bl_abs ?_
   refine cmp_gt_int ?_
   walk_at "s24"
   refine bs_or ?_
   refine ts_bool ?_
   refine bs_and ?_
   refine' ts_eqi_l ?l_2 ?_; (case l_2 => walk_at "lk")
  have pos : 0 ≤ v.pn → K (.d (LD (.d (red (u.pn ^ v.pn.toNat) (u.pd ^ v.pn.toNat)).1 (red (u.pn ^ v.pn.toNat) (u.pd ^ v.pn.toNat)).2))) σ := fun h => by rw [powL, if_pos h] at k; exact k
  refine ⟨fun h => ?_, fun h => ?_⟩
  · have hz : u.pn = 0 := by simpa using h
    have hc := h4 hz
    have q3 : decide (v.pn ≤ 0) = false := decide_eq_false (by omega)
    have hc0 : 0 ≤ v.pn := by omega
    have q4 : decide (0 ≤ v.pn) = true := decide_eq_true hc0
    have p1 := lim _ s1 _ h3 hc0
    have p2 := lim _ s2 _ h3 hc0
    obtain ⟨p3, p4⟩ := pw u.pd v.pn.toNat (by omega) s2 (by omega)
    with_reducible
     refine bs_and ?_
     refine' ts_cmp_li ?l_3 ?u_3 rfl ?_; (case l_3 => walk_at "lk"); (case u_3 => walk_at "und")
     refine cmp_le_int ?_
     walk_at "s24"
     walk_at "s9"
     refine bs_or_nil ?_
     walk_at "s9"
     walk_at "s9"
     refine' xs_if0 ?_
     walk_at "s20"
     walk_at "s9"
     refine' xs_if0 ?_
     walk_at "s20"
     walk_at "s14"
     refine' xs_ret ?_
     refine ev_tuple_a ?_
     refine' es_s ?_
     walk_at "s19"
     refine ev_ifexp ?_
     refine' ts_cmp_li ?l_4 ?u_4 rfl ?_; (case l_4 => walk_at "lk"); (case u_4 => walk_at "und")
     refine cmp_ge_int ?_
     refine ways_t (by with_reducible assumption) ?_
     walk_at "s0"
     refine es_cons (fun _ => rfl) ?_
     walk_at "s11"
     refine' bin_pow ?h0_5 ?hm_5 ?_; (case h0_5 => walk_at "side"); (case hm_5 => walk_at "side")
     walk_at "s19"
     walk_at "s11"
     refine' bin_pow ?h0_6 ?hm_6 ?_; (case h0_6 => walk_at "side"); (case hm_6 => walk_at "side")
     apply c_law_reduced; iterate 3 walk_at "side"
     walk_at "s17"
     refine ⟨_, TupOf.d rfl, ?_⟩
     walk_at "s10"
    exact pos hc0
  · have hz : u.pn ≠ 0 := by simpa using h
    with_reducible
     walk_at "s9"
     refine bs_or_nil ?_
     walk_at "s9"
     walk_at "s9"
     refine' xs_if0 ?_
     walk_at "s20"
     walk_at "s9"
     refine' xs_if0 ?_
     walk_at "s20"
     walk_at "s14"
     refine' xs_ret ?_
     refine ev_tuple_a ?_
     refine' es_s ?_
     walk_at "s19"
     refine ev_ifexp ?_
     refine' ts_cmp_li ?l_7 ?u_7 rfl ?_; (case l_7 => walk_at "lk"); (case u_7 => walk_at "und")
     refine cmp_ge_int ?_
    refine ⟨fun h => ?_, fun h => ?_⟩
    · have hc0 : 0 ≤ v.pn := of_decide_eq_true h
      have p1 := lim _ s1 _ h3 hc0
      have p2 := lim _ s2 _ h3 hc0
      obtain ⟨p3, p4⟩ := pw u.pd v.pn.toNat (by omega) s2 (by omega)
      with_reducible
       walk_at "s0"
       refine es_cons (fun _ => rfl) ?_
       walk_at "s11"
       refine' bin_pow ?h0_8 ?hm_8 ?_; (case h0_8 => walk_at "side"); (case hm_8 => walk_at "side")
       walk_at "s19"
       walk_at "s11"
       refine' bin_pow ?h0_9 ?hm_9 ?_; (case h0_9 => walk_at "side"); (case hm_9 => walk_at "side")
       apply c_law_reduced; iterate 3 walk_at "side"
       walk_at "s17"
       refine ⟨_, TupOf.d rfl, ?_⟩
       walk_at "s10"
      exact pos hc0
    · have hc0 : ¬ 0 ≤ v.pn := of_decide_eq_false h
      have hc1 : 0 ≤ -v.pn := by omega
      have p1 := lim _ s1 (-v.pn) (by omega) hc1
      have p2 := lim _ s2 (-v.pn) (by omega) hc1
      obtain ⟨p3, p4⟩ := pw u.pn (-v.pn).toNat (by omega) s1 hz
      rw [powL, if_neg hc0] at k
      with_reducible
       walk_at "s0"
       refine es_cons (fun _ => rfl) ?_
       refine' ev_bin_l ?l_10 ?u_10 ?_; (case l_10 => walk_at "lk"); (case u_10 => walk_at "und")
       refine ev_neg ?_
       walk_at "s5"
       refine ⟨_, rfl, ?_⟩
       refine' bin_pow ?h0_11 ?hm_11 ?_; (case h0_11 => walk_at "side"); (case hm_11 => walk_at "side")
       walk_at "s19"
       refine' ev_bin_l ?l_12 ?u_12 ?_; (case l_12 => walk_at "lk"); (case u_12 => walk_at "und")
       refine ev_neg ?_
       walk_at "s5"
       refine ⟨_, rfl, ?_⟩
       refine' bin_pow ?h0_13 ?hm_13 ?_; (case h0_13 => walk_at "side"); (case hm_13 => walk_at "side")
       apply c_law_reduced; iterate 3 walk_at "side"
       walk_at "s17"
       refine ⟨_, TupOf.d rfl, ?_⟩
       walk_at "s10"
      exact k
theorem dget_nu {op : Str} {a b c d fl : Int} : ((dget ["+", "-", "*"] [P2 (a * d + c * b) (b * d), P2 (a * d - c * b) (b * d), P2 (a * c) (b * d)] op).getD (P2 fl 1)) = P2 (nuL op a b c d fl).1 (nuL op a b c d fl).2 := by
  by_cases h1 : op = "+"
  · rw [nuL, if_pos h1, dget, if_pos h1.symm]; rfl
  · by_cases h2 : op = "-"
    · rw [nuL, if_neg h1, if_pos h2, dget, if_neg (Ne.symm h1), dget, if_pos h2.symm]; rfl
    · by_cases h3 : op = "*"
      · rw [nuL, if_neg h1, if_neg h2, if_pos h3, dget, if_neg (Ne.symm h1), dget, if_neg (Ne.symm h2), dget, if_pos h3.symm]; rfl
      · rw [nuL, if_neg h1, if_neg h2, if_neg h3, dget, if_neg (Ne.symm h1), dget, if_neg (Ne.symm h2), dget, if_neg (Ne.symm h3)]; rfl
theorem ev_floor {G : Glo} {ma : Loc} {a b c d : Int} {p1 p2 p3 p4 p5 p6 p7 p8 p9 q1 q2 q3 q4 q5 q6 q7 q8 q9 r1 r2 r3 r4 r5 r6 : Pos} {k1 k2 k3 : Nat} (la : Lk "a" (I a) ma) (lb : Lk "b" (I b) ma) (lc : Lk "c" (I c) ma) (ld : Lk "d" (I d) ma)
    (hb : 0 < b) (sa : Sz 2100 a) (sb : Sz 2100 b) (sc : Sz 2100 c) (sd : Sz 2100 d) (k : K (I (flL a b c d)) σ) :
    EvTo cx r G KE (.IfExp (.Compare (.Name "c" p1) [.Gt] [.Constant (.int 0) k1 p2] p3) (.BinOp (.BinOp (.Name "a" p4) .Mult (.Name "d" p5) p6) .FloorDiv (.BinOp (.Name "b" p7) .Mult (.Name "c" p8) p9) q1)
      (.IfExp (.Compare (.Name "c" q2) [.Lt] [.Constant (.int 0) k2 q3] q4) (.BinOp (.BinOp (.Name "a" q5) .Mult (.UnaryOp .USub (.Name "d" q6) q7) q8) .FloorDiv (.BinOp (.Name "b" q9) .Mult (.UnaryOp .USub (.Name "c" r1) r2) r3) r4) (.Constant (.int 0) k3 r5) r6) pos) ma σ K := by
  have o1 : IntMulOk a d := sa.ok sd
  have o2 : IntMulOk b c := sb.ok sc
  have o3 : IntMulOk a (-d) := sa.ok sd.neg
  have o4 : IntMulOk b (-c) := sb.ok sc.neg
  have l1 : (b * c).natAbs.log2 < 9000 := (sb.mul sc).log (by decide)
  have l2 : (b * -c).natAbs.log2 < 9000 := (sb.mul sc.neg).log (by decide)
  refine ev_ifexp (ts_cmp rfl (ev_local lc nofun (ev_cint (cmp_gt_int ⟨fun h => ?_, fun h => ?_⟩))))
  · have h : 0 < c := of_decide_eq_true h
    have n1 : b * c ≠ 0 := Int.mul_ne_zero (by omega) (by omega)
    rw [flL, if_pos h] at k
    exact ev_bin (ev_bin (ev_local la nofun (ev_local ld nofun (bin_mul o1 (ev_bin (ev_local lb nofun (ev_local lc nofun (bin_mul o2 (bin_div n1 l1 k)))))))))
  · have h : ¬ 0 < c := of_decide_eq_false h
    rw [flL, if_neg h] at k
    refine ev_ifexp (ts_cmp rfl (ev_local lc nofun (ev_cint (cmp_lt_int ⟨fun h2 => ?_, fun h2 => ?_⟩))))
    · have h2 : c < 0 := of_decide_eq_true h2
      have n1 : b * -c ≠ 0 := Int.mul_ne_zero (by omega) (by omega)
      rw [if_pos h2] at k
      exact ev_bin (ev_bin (ev_local la nofun (ev_neg (ev_local ld nofun ⟨_, rfl, bin_mul o3 (ev_bin (ev_local lb nofun (ev_neg (ev_local lc nofun ⟨_, rfl, bin_mul o4 (bin_div n1 l2 k)⟩))))⟩))))
    · have h2 : ¬ c < 0 := of_decide_eq_false h2
      rw [if_neg h2] at k
      exact ev_cint k
noncomputable def numL (op : Str) (u v : Lf) : Int × Int :=
  if op = "%%" then (u.pn * v.pd - flL u.pn u.pd v.pn v.pd * v.pn * u.pd, u.pd * v.pd) else nuL op u.pn u.pd v.pn v.pd (flL u.pn u.pd v.pn v.pd)
noncomputable def resL (u v : Lf) (n : Int × Int) : Option Lf := if (isD u || isD v) = true then some (.d (red n.1 n.2).1 (red n.1 n.2).2) else if (n.1.fdiv n.2).natAbs ≤ 2147483647 then some (.w false (n.1.fdiv n.2)) else none
theorem c_numbers_asm (hK : cx.K = HK P) {op : Str} {u v : Lf} (hu : u ≠ .c) (hv : v ≠ .c) (ho : op = "+" ∨ op = "-" ∨ op = "*")
    (pu : 0 < u.pd) (pv : 0 < v.pd) (s1 : Sz 2100 u.pn) (s2 : Sz 2100 u.pd) (s3 : Sz 2100 v.pn) (s4 : Sz 2100 v.pd) (k1 : ∀ w, resL u v (numL op u v) = some w → K (.d (LD w)) σ) (k0 : resL u v (numL op u v) = none → K N σ) : CalTo cx (r + 2) KE (.fn "_law_numbers") [S op, .d (LD u), .d (LD v)] σ K := by
  have lo : PyData.canLay0 (.str op) = true := by rcases ho with rfl | rfl | rfl <;> decide +kernel
  have hin : ([PyData.str "/", .str "%%", .str "%/%"].any fun y => PyData.eqv y (.str op)) = false := by rcases ho with rfl | rfl | rfl <;> decide +kernel
  have n1 : (op == ("^" : Str)) = false := by rcases ho with rfl | rfl | rfl <;> decide +kernel
  have n2 : (op == ("/" : Str)) = false := by rcases ho with rfl | rfl | rfl <;> decide +kernel
  have n3 : (op == ("%%" : Str)) = false := by rcases ho with rfl | rfl | rfl <;> decide +kernel
  have o1 : IntMulOk u.pn v.pd := s1.ok s4
  have o2 : IntMulOk v.pn u.pd := s3.ok s2
  have o3 : IntMulOk u.pd v.pd := s2.ok s4
  have o4 : IntMulOk u.pn v.pn := s1.ok s3
  have hs : SeqAV "tuple" ((dget ["+", "-", "*"] [P2 (u.pn * v.pd + v.pn * u.pd) (u.pd * v.pd), P2 (u.pn * v.pd - v.pn * u.pd) (u.pd * v.pd), P2 (u.pn * v.pn) (u.pd * v.pd)] op).getD (P2 (flL u.pn u.pd v.pn v.pd) 1)) [I (nuL op u.pn u.pd v.pn v.pd (flL u.pn u.pd v.pn v.pd)).1, I (nuL op u.pn u.pd v.pn v.pd (flL u.pn u.pd v.pn v.pd)).2] := by rw [dget_nu]; exact .dt rfl
  have en : numL op u v = nuL op u.pn u.pd v.pn v.pd (flL u.pn u.pd v.pn v.pd) := by rw [numL, if_neg (by simpa using n3)]
  have e2 : (nuL op u.pn u.pd v.pn v.pd (flL u.pn u.pd v.pn v.pd)).2 = u.pd * v.pd := by
    have m1 : ¬ (Str.ofString "-" : Str) = "+" := by decide +kernel
    have m2 : ¬ (Str.ofString "*" : Str) = "+" := by decide +kernel
    have m3 : ¬ (Str.ofString "*" : Str) = "-" := by decide +kernel
    rcases ho with rfl | rfl | rfl
    · rw [nuL, if_pos rfl]
    · rw [nuL, if_neg m1, if_pos rfl]
    · rw [nuL, if_neg m2, if_neg m3, if_pos rfl]
  have un0 : (nuL op u.pn u.pd v.pn v.pd (flL u.pn u.pd v.pn v.pd)).2 ≠ 0 := by rw [e2]; exact Int.mul_ne_zero (by omega) (by omega)
  have unl : (nuL op u.pn u.pd v.pn v.pd (flL u.pn u.pd v.pn v.pd)).2.natAbs.log2 < 9000 := by rw [e2]; exact (s2.mul s4).log (by decide)
  have lay2 : PyData.canLayAll0 [.str u.kd, .str v.kd] = true := by simp [PyData.canLayAll0, u.kn.facts.lay, v.kn.facts.lay]
  have hz : ([PyData.str u.kd, .str v.kd].any fun y => PyData.eqv y (.str "double")) = (isD u || isD v) := by
    rw [← isD_kd, ← isD_kd]; simp [PyData.eqv]
  have k1' : (isD u || isD v) = true → K (.d (LD (.d (red (nuL op u.pn u.pd v.pn v.pd (flL u.pn u.pd v.pn v.pd)).1 (nuL op u.pn u.pd v.pn v.pd (flL u.pn u.pd v.pn v.pd)).2).1 (red (nuL op u.pn u.pd v.pn v.pd (flL u.pn u.pd v.pn v.pd)).1 (nuL op u.pn u.pd v.pn v.pd (flL u.pn u.pd v.pn v.pd)).2).2))) σ := fun h => k1 _ (by rw [en, resL, if_pos h])
  have k2' : ¬ (isD u || isD v) = true → ((nuL op u.pn u.pd v.pn v.pd (flL u.pn u.pd v.pn v.pd)).1.fdiv (nuL op u.pn u.pd v.pn v.pd (flL u.pn u.pd v.pn v.pd)).2).natAbs ≤ 2147483647 → K (.d (LD (.w false ((nuL op u.pn u.pd v.pn v.pd (flL u.pn u.pd v.pn v.pd)).1.fdiv (nuL op u.pn u.pd v.pn v.pd (flL u.pn u.pd v.pn v.pd)).2)))) σ := fun h h' => k1 _ (by rw [en, resL, if_neg h, if_pos h'])
  have k3' : ¬ (isD u || isD v) = true → ¬ ((nuL op u.pn u.pd v.pn v.pd (flL u.pn u.pd v.pn v.pd)).1.fdiv (nuL op u.pn u.pd v.pn v.pd (flL u.pn u.pd v.pn v.pd)).2).natAbs ≤ 2147483647 → K N σ := fun h h' => k0 (by rw [en, resL, if_neg h, if_neg h'])
  refine go3 "name" "one" "two" [("a", .undef), ("b", .undef), ("c", .undef), ("d", .undef), ("floor_of", .undef), ("n", .undef), ("under", .undef)] [("_law_pair", .fn "_law_pair"), ("abs", .cv (.builtin "abs")), ("_law_reduced", .fn "_law_reduced")] rfl hK (fo_law_numbers _) (by decide +kernel) (GS.cons (gv_law_pair hK) (GS.cons (gvb_abs hK) (GS.cons (gv_law_reduced hK) GS.nil))) ?_
  conv => arg 6; whnf
  with_reducible
   refine xs_cons ?_
   refine ex_unpack2 (fun _ => rfl) (fun _ => rfl) ?_
   walk_at "s0"
   walk_at "s1"
   apply c_law_pair; iterate 2 walk_at "side"
   refine ⟨_, _, .dt rfl, ?_⟩
   walk_at "s6"
   walk_at "s6"
   refine xs_cons ?_
   refine ex_unpack2 (fun _ => rfl) (fun _ => rfl) ?_
   walk_at "s0"
   walk_at "s1"
   apply c_law_pair; iterate 2 walk_at "side"
   refine ⟨_, _, .dt rfl, ?_⟩
   walk_at "s6"
   walk_at "s6"
   refine' xs_if0 ?_
   refine ts_bool ?_
   refine bs_and ?_
   walk_at "s13"
   refine ev_list_a ?_
   refine' es_s ?_
   refine' es_s ?_
   refine' es_s1 ?_
   walk_at "s18"
   refine ⟨_, LstOf.d rfl, ?_⟩
   walk_at "s4"
   walk_at "s24"
   walk_at "s9"
   refine' xs_if0 ?_
   refine ts_bool ?_
   refine bs_and ?_
   walk_at "s20"
   walk_at "s24"
   walk_at "s9"
   refine' xs_if0 ?_
   walk_at "s20"
   walk_at "s24"
   refine' xs_if0 ?_
   walk_at "s20"
   walk_at "s24"
   walk_at "s16"
   refine' ev_floor ?la_1 ?lb_1 ?lc_1 ?ld_1 ?hb_1 ?sa_1 ?sb_1 ?sc_1 ?sd_1 ?_; (case la_1 => walk_at "lk"); (case lb_1 => walk_at "lk"); (case lc_1 => walk_at "lk"); (case ld_1 => walk_at "lk"); (case hb_1 => assumption); (case sa_1 => assumption); (case sb_1 => assumption); (case sc_1 => assumption); (case sd_1 => assumption)
   walk_at "s6"
   refine xs_cons ?_
   refine ex_unpack2 (fun _ => rfl) (fun _ => rfl) ?_
   refine ev_get (fun _ => rfl) (fun _ => rfl) rfl (fun _ => rfl) ?_
   refine ev_dict rfl (fun _ => (by simp [pairsOf])) (fun _ => (by simp [pairsOf])) ?_
   refine ds_cons ?_
   refine pu_pair (fun _ => rfl) (fun _ => rfl) ?_
   refine pu_bin (.inl rfl) ?_
   refine pu_bin (.inr (.inr rfl)) ?_
   walk_at "s12"
   walk_at "s12"
   walk_at "s26"
   refine pu_bin (.inr (.inr rfl)) ?_
   walk_at "s12"
   walk_at "s12"
   walk_at "s26"
   walk_at "s26"
   refine pu_bin (.inr (.inr rfl)) ?_
   walk_at "s12"
   walk_at "s12"
   walk_at "s26"
   refine ⟨_, _, rfl, rfl, ?_⟩
   refine ds_cons ?_
   refine pu_pair (fun _ => rfl) (fun _ => rfl) ?_
   refine pu_bin (.inr (.inl rfl)) ?_
   refine pu_bin (.inr (.inr rfl)) ?_
   walk_at "s12"
   walk_at "s12"
   walk_at "s26"
   refine pu_bin (.inr (.inr rfl)) ?_
   walk_at "s12"
   walk_at "s12"
   walk_at "s26"
   walk_at "s26"
   refine pu_bin (.inr (.inr rfl)) ?_
   walk_at "s12"
   walk_at "s12"
   walk_at "s26"
   refine ⟨_, _, rfl, rfl, ?_⟩
   refine ds_cons ?_
   refine pu_pair (fun _ => rfl) (fun _ => rfl) ?_
   refine pu_bin (.inr (.inr rfl)) ?_
   walk_at "s12"
   walk_at "s12"
   walk_at "s26"
   refine pu_bin (.inr (.inr rfl)) ?_
   walk_at "s12"
   walk_at "s12"
   walk_at "s26"
   refine ⟨_, _, rfl, rfl, ?_⟩
   refine ds_nil ?_
   walk_at "s18"
   refine ⟨_, _, (rfl : AV.dct _ _ = AV.dct _ _), ?_⟩
   walk_at "s5"
   refine ⟨_, rfl, ?_⟩
   refine ev_tuple_a ?_
   walk_at "s3"
   refine' es_i1 ?_
   walk_at "s17"
   refine ⟨_, TupOf.d rfl, ?_⟩
  refine ⟨_, _, (by assumption : SeqAV "tuple" _ _), ?_⟩
  with_reducible
   walk_at "s6"
   walk_at "s6"
   refine' xs_if0 ?_
   walk_at "s20"
   walk_at "s24"
   refine' xs_if0 ?_
   refine ts_cmp rfl ?_
   refine ev_cstr ?_
   refine ev_list_a ?_
   refine es_cons (fun _ => rfl) ?_
   walk_at "s2"
   walk_at "s7"
   walk_at "s19"
   walk_at "s2"
   walk_at "s7"
   walk_at "s17"
   refine ⟨_, LstOf.d rfl, ?_⟩
   walk_at "s4"
  refine ⟨fun h => ?_, fun h => ?_⟩
  · have h : (isD u || isD v) = true := hz.symm.trans h
    with_reducible
     refine' xs_ret ?_
     refine ev_tuple_a ?_
     refine' es_s ?_
     walk_at "s19"
     walk_at "s0"
     walk_at "s3"
     walk_at "s1"
     apply c_law_reduced; iterate 3 walk_at "side"
     walk_at "s17"
     refine ⟨_, TupOf.d rfl, ?_⟩
     walk_at "s10"
    exact k1' h
  · have h : ¬ (isD u || isD v) = true := by rw [show (isD u || isD v) = false from hz.symm.trans h]; decide
    with_reducible
     refine' xs_ret ?_
     refine ev_ifexp ?_
     refine' ts_cmp_i rfl ?_
     walk_at "s0"
     walk_at "s19"
     walk_at "s11"
     refine bin_div (by first | assumption | decide | omega) (by first | assumption | decide | omega) ?_
     refine bl_abs ?_
     refine cmp_le_int ?_
    refine ⟨fun h' => ?_, fun h' => ?_⟩
    · have h' : ((_ : Nat) : Int) ≤ 2147483647 := of_decide_eq_true h'
      with_reducible
       refine ev_tuple_a ?_
       refine' es_s ?_
       walk_at "s19"
       walk_at "s11"
       refine bin_div (by first | assumption | decide | omega) (by first | assumption | decide | omega) ?_
       walk_at "s17"
       refine ⟨_, TupOf.d rfl, ?_⟩
       walk_at "s10"
      exact k2' h (by first | omega | (dsimp only; omega))
    · have h' : ¬ ((_ : Nat) : Int) ≤ 2147483647 := of_decide_eq_false h'
      with_reducible
       refine ev_cnone ?_
       walk_at "s10"
      exact k3' h (by first | omega | (dsimp only; omega))
theorem c_numbers_quo (hK : cx.K = HK P) {u v : Lf} (hu : u ≠ .c) (hv : v ≠ .c) (h0 : v.pn ≠ 0)
    (pu : 0 < u.pd) (pv : 0 < v.pd) (s1 : Sz 2100 u.pn) (s2 : Sz 2100 u.pd) (s3 : Sz 2100 v.pn) (s4 : Sz 2100 v.pd) (k1 : ∀ w, resL u v (numL "%/%" u v) = some w → K (.d (LD w)) σ) (k0 : resL u v (numL "%/%" u v) = none → K N σ) : CalTo cx (r + 2) KE (.fn "_law_numbers") [S "%/%", .d (LD u), .d (LD v)] σ K := by
  have c0 : (v.pn == 0) = false := by simpa using h0
  have o1 : IntMulOk u.pn v.pd := s1.ok s4
  have o2 : IntMulOk v.pn u.pd := s3.ok s2
  have o3 : IntMulOk u.pd v.pd := s2.ok s4
  have o4 : IntMulOk u.pn v.pn := s1.ok s3
  have en : numL "%/%" u v = (flL u.pn u.pd v.pn v.pd, (1 : Int)) := by
    rw [numL, if_neg (by decide +kernel), nuL, if_neg (by decide +kernel), if_neg (by decide +kernel), if_neg (by decide +kernel)]
  have en' : nuL "%/%" u.pn u.pd v.pn v.pd (flL u.pn u.pd v.pn v.pd) = (flL u.pn u.pd v.pn v.pd, (1 : Int)) := by
    rw [nuL, if_neg (by decide +kernel), if_neg (by decide +kernel), if_neg (by decide +kernel)]
  have hs : SeqAV "tuple" ((dget ["+", "-", "*"] [P2 (u.pn * v.pd + v.pn * u.pd) (u.pd * v.pd), P2 (u.pn * v.pd - v.pn * u.pd) (u.pd * v.pd), P2 (u.pn * v.pn) (u.pd * v.pd)] "%/%").getD (P2 (flL u.pn u.pd v.pn v.pd) 1)) [I (flL u.pn u.pd v.pn v.pd), I 1] := by rw [dget_nu, en']; exact .dt rfl
  have lay2 : PyData.canLayAll0 [.str u.kd, .str v.kd] = true := by simp [PyData.canLayAll0, u.kn.facts.lay, v.kn.facts.lay]
  have hz : ([PyData.str u.kd, .str v.kd].any fun y => PyData.eqv y (.str "double")) = (isD u || isD v) := by
    rw [← isD_kd, ← isD_kd]; simp [PyData.eqv]
  have k1' : (isD u || isD v) = true → K (.d (LD (.d (red ((flL u.pn u.pd v.pn v.pd, (1 : Int))).1 ((flL u.pn u.pd v.pn v.pd, (1 : Int))).2).1 (red ((flL u.pn u.pd v.pn v.pd, (1 : Int))).1 ((flL u.pn u.pd v.pn v.pd, (1 : Int))).2).2))) σ := fun h => k1 _ (by rw [en, resL, if_pos h])
  have k2' : ¬ (isD u || isD v) = true → (((flL u.pn u.pd v.pn v.pd, (1 : Int))).1.fdiv ((flL u.pn u.pd v.pn v.pd, (1 : Int))).2).natAbs ≤ 2147483647 → K (.d (LD (.w false (((flL u.pn u.pd v.pn v.pd, (1 : Int))).1.fdiv ((flL u.pn u.pd v.pn v.pd, (1 : Int))).2)))) σ := fun h h' => k1 _ (by rw [en, resL, if_neg h, if_pos h'])
  have k3' : ¬ (isD u || isD v) = true → ¬ (((flL u.pn u.pd v.pn v.pd, (1 : Int))).1.fdiv ((flL u.pn u.pd v.pn v.pd, (1 : Int))).2).natAbs ≤ 2147483647 → K N σ := fun h h' => k0 (by rw [en, resL, if_neg h, if_neg h'])
  refine go3 "name" "one" "two" [("a", .undef), ("b", .undef), ("c", .undef), ("d", .undef), ("floor_of", .undef), ("n", .undef), ("under", .undef)] [("_law_pair", .fn "_law_pair"), ("abs", .cv (.builtin "abs")), ("_law_reduced", .fn "_law_reduced")] rfl hK (fo_law_numbers _) (by decide +kernel) (GS.cons (gv_law_pair hK) (GS.cons (gvb_abs hK) (GS.cons (gv_law_reduced hK) GS.nil))) ?_
  conv => arg 6; whnf
  with_reducible
   refine xs_cons ?_
   refine ex_unpack2 (fun _ => rfl) (fun _ => rfl) ?_
   walk_at "s0"
   walk_at "s1"
   apply c_law_pair; iterate 2 walk_at "side"
   refine ⟨_, _, .dt rfl, ?_⟩
   walk_at "s6"
   walk_at "s6"
   refine xs_cons ?_
   refine ex_unpack2 (fun _ => rfl) (fun _ => rfl) ?_
   walk_at "s0"
   walk_at "s1"
   apply c_law_pair; iterate 2 walk_at "side"
   refine ⟨_, _, .dt rfl, ?_⟩
   walk_at "s6"
   walk_at "s6"
   refine' xs_if0 ?_
   refine ts_bool ?_
   refine bs_and ?_
   walk_at "s13"
   refine ev_list_a ?_
   refine' es_s ?_
   refine' es_s ?_
   refine' es_s1 ?_
   walk_at "s18"
   refine ⟨_, LstOf.d rfl, ?_⟩
   walk_at "s4"
   walk_at "s14"
   refine bs_and ?_
   refine' ts_eqi_l ?l_1 ?_; (case l_1 => walk_at "lk")
   walk_at "s24"
   walk_at "s9"
   refine' xs_if0 ?_
   refine ts_bool ?_
   refine bs_and ?_
   walk_at "s20"
   walk_at "s9"
   walk_at "s9"
   refine' xs_if0 ?_
   walk_at "s20"
   walk_at "s9"
   refine' xs_if0 ?_
   walk_at "s20"
   walk_at "s9"
   walk_at "s16"
   refine' ev_floor ?la_2 ?lb_2 ?lc_2 ?ld_2 ?hb_2 ?sa_2 ?sb_2 ?sc_2 ?sd_2 ?_; (case la_2 => walk_at "lk"); (case lb_2 => walk_at "lk"); (case lc_2 => walk_at "lk"); (case ld_2 => walk_at "lk"); (case hb_2 => assumption); (case sa_2 => assumption); (case sb_2 => assumption); (case sc_2 => assumption); (case sd_2 => assumption)
   walk_at "s6"
   refine xs_cons ?_
   refine ex_unpack2 (fun _ => rfl) (fun _ => rfl) ?_
   refine ev_get (fun _ => rfl) (fun _ => rfl) rfl (fun _ => rfl) ?_
   refine ev_dict rfl (fun _ => (by simp [pairsOf])) (fun _ => (by simp [pairsOf])) ?_
   refine ds_cons ?_
   refine pu_pair (fun _ => rfl) (fun _ => rfl) ?_
   refine pu_bin (.inl rfl) ?_
   refine pu_bin (.inr (.inr rfl)) ?_
   walk_at "s12"
   walk_at "s12"
   walk_at "s26"
   refine pu_bin (.inr (.inr rfl)) ?_
   walk_at "s12"
   walk_at "s12"
   walk_at "s26"
   walk_at "s26"
   refine pu_bin (.inr (.inr rfl)) ?_
   walk_at "s12"
   walk_at "s12"
   walk_at "s26"
   refine ⟨_, _, rfl, rfl, ?_⟩
   refine ds_cons ?_
   refine pu_pair (fun _ => rfl) (fun _ => rfl) ?_
   refine pu_bin (.inr (.inl rfl)) ?_
   refine pu_bin (.inr (.inr rfl)) ?_
   walk_at "s12"
   walk_at "s12"
   walk_at "s26"
   refine pu_bin (.inr (.inr rfl)) ?_
   walk_at "s12"
   walk_at "s12"
   walk_at "s26"
   walk_at "s26"
   refine pu_bin (.inr (.inr rfl)) ?_
   walk_at "s12"
   walk_at "s12"
   walk_at "s26"
   refine ⟨_, _, rfl, rfl, ?_⟩
   refine ds_cons ?_
   refine pu_pair (fun _ => rfl) (fun _ => rfl) ?_
   refine pu_bin (.inr (.inr rfl)) ?_
   walk_at "s12"
   walk_at "s12"
   walk_at "s26"
   refine pu_bin (.inr (.inr rfl)) ?_
   walk_at "s12"
   walk_at "s12"
   walk_at "s26"
   refine ⟨_, _, rfl, rfl, ?_⟩
   refine ds_nil ?_
   walk_at "s18"
   refine ⟨_, _, (rfl : AV.dct _ _ = AV.dct _ _), ?_⟩
   walk_at "s5"
   refine ⟨_, rfl, ?_⟩
   refine ev_tuple_a ?_
   walk_at "s3"
   refine' es_i1 ?_
   walk_at "s17"
   refine ⟨_, TupOf.d rfl, ?_⟩
  refine ⟨_, _, (by assumption : SeqAV "tuple" _ _), ?_⟩
  with_reducible
   walk_at "s6"
   walk_at "s6"
   refine' xs_if0 ?_
   walk_at "s20"
   walk_at "s9"
   refine' xs_if0 ?_
   refine ts_cmp rfl ?_
   refine ev_cstr ?_
   refine ev_list_a ?_
   refine es_cons (fun _ => rfl) ?_
   walk_at "s2"
   walk_at "s7"
   walk_at "s19"
   walk_at "s2"
   walk_at "s7"
   walk_at "s17"
   refine ⟨_, LstOf.d rfl, ?_⟩
   walk_at "s4"
  refine ⟨fun h => ?_, fun h => ?_⟩
  · have h : (isD u || isD v) = true := hz.symm.trans h
    with_reducible
     refine' xs_ret ?_
     refine ev_tuple_a ?_
     refine' es_s ?_
     walk_at "s19"
     walk_at "s0"
     walk_at "s3"
     walk_at "s1"
     apply c_law_reduced; iterate 3 walk_at "side"
     walk_at "s17"
     refine ⟨_, TupOf.d rfl, ?_⟩
     walk_at "s10"
    exact k1' h
  · have h : ¬ (isD u || isD v) = true := by rw [show (isD u || isD v) = false from hz.symm.trans h]; decide
    with_reducible
     refine' xs_ret ?_
     refine ev_ifexp ?_
     refine' ts_cmp_i rfl ?_
     walk_at "s0"
     walk_at "s19"
     walk_at "s11"
     refine bin_div (by first | assumption | decide | omega) (by first | assumption | decide | omega) ?_
     refine bl_abs ?_
     refine cmp_le_int ?_
    refine ⟨fun h' => ?_, fun h' => ?_⟩
    · have h' : ((_ : Nat) : Int) ≤ 2147483647 := of_decide_eq_true h'
      with_reducible
       refine ev_tuple_a ?_
       refine' es_s ?_
       walk_at "s19"
       walk_at "s11"
       refine bin_div (by first | assumption | decide | omega) (by first | assumption | decide | omega) ?_
       walk_at "s17"
       refine ⟨_, TupOf.d rfl, ?_⟩
       walk_at "s10"
      exact k2' h (by first | omega | (dsimp only; omega))
    · have h' : ¬ ((_ : Nat) : Int) ≤ 2147483647 := of_decide_eq_false h'
      with_reducible
       refine ev_cnone ?_
       walk_at "s10"
      exact k3' h (by first | omega | (dsimp only; omega))
theorem flL_sz {a b c d : Int} (sa : Sz 2100 a) (sd : Sz 2100 d) : Sz 4200 (flL a b c d) := by
  have key : ∀ x y : Int, Sz 4200 x → Sz 4200 (x.fdiv y) := fun x y h => by
    unfold Sz at *
    exact Nat.lt_of_le_of_lt (Int.natAbs_fdiv_le_natAbs x y) h
  unfold flL
  split
  · exact key _ _ (sa.mul sd)
  · split
    · exact key _ _ (sa.mul sd.neg)
    · exact Sz.mono (a := 1) (by unfold Sz; decide) (by decide)
theorem c_numbers_mod (hK : cx.K = HK P) {u v : Lf} (hu : u ≠ .c) (hv : v ≠ .c) (h0 : v.pn ≠ 0)
    (pu : 0 < u.pd) (pv : 0 < v.pd) (s1 : Sz 2100 u.pn) (s2 : Sz 2100 u.pd) (s3 : Sz 2100 v.pn) (s4 : Sz 2100 v.pd) (k1 : ∀ w, resL u v (numL "%%" u v) = some w → K (.d (LD w)) σ) (k0 : resL u v (numL "%%" u v) = none → K N σ) : CalTo cx (r + 2) KE (.fn "_law_numbers") [S "%%", .d (LD u), .d (LD v)] σ K := by
  have c0 : (v.pn == 0) = false := by simpa using h0
  have o1 : IntMulOk u.pn v.pd := s1.ok s4
  have o2 : IntMulOk v.pn u.pd := s3.ok s2
  have o3 : IntMulOk u.pd v.pd := s2.ok s4
  have o4 : IntMulOk u.pn v.pn := s1.ok s3
  have sf := flL_sz (b := u.pd) (c := v.pn) s1 s4
  have o5 : IntMulOk (flL u.pn u.pd v.pn v.pd) v.pn := sf.ok (s3.mono (by decide))
  have o6 : IntMulOk (flL u.pn u.pd v.pn v.pd * v.pn) u.pd := (sf.mul s3).ok (s2.mono (by decide))
  have un0 : u.pd * v.pd ≠ 0 := Int.mul_ne_zero (by omega) (by omega)
  have unl : (u.pd * v.pd).natAbs.log2 < 9000 := (s2.mul s4).log (by decide)
  have en : numL "%%" u v = (u.pn * v.pd - flL u.pn u.pd v.pn v.pd * v.pn * u.pd, u.pd * v.pd) := by rw [numL, if_pos rfl]
  have en' : nuL "%%" u.pn u.pd v.pn v.pd (flL u.pn u.pd v.pn v.pd) = (flL u.pn u.pd v.pn v.pd, (1 : Int)) := by
    rw [nuL, if_neg (by decide +kernel), if_neg (by decide +kernel), if_neg (by decide +kernel)]
  have hs : SeqAV "tuple" ((dget ["+", "-", "*"] [P2 (u.pn * v.pd + v.pn * u.pd) (u.pd * v.pd), P2 (u.pn * v.pd - v.pn * u.pd) (u.pd * v.pd), P2 (u.pn * v.pn) (u.pd * v.pd)] "%%").getD (P2 (flL u.pn u.pd v.pn v.pd) 1)) [I (flL u.pn u.pd v.pn v.pd), I 1] := by rw [dget_nu, en']; exact .dt rfl
  have lay2 : PyData.canLayAll0 [.str u.kd, .str v.kd] = true := by simp [PyData.canLayAll0, u.kn.facts.lay, v.kn.facts.lay]
  have hz : ([PyData.str u.kd, .str v.kd].any fun y => PyData.eqv y (.str "double")) = (isD u || isD v) := by
    rw [← isD_kd, ← isD_kd]; simp [PyData.eqv]
  have k1' : (isD u || isD v) = true → K (.d (LD (.d (red ((u.pn * v.pd - flL u.pn u.pd v.pn v.pd * v.pn * u.pd, u.pd * v.pd)).1 ((u.pn * v.pd - flL u.pn u.pd v.pn v.pd * v.pn * u.pd, u.pd * v.pd)).2).1 (red ((u.pn * v.pd - flL u.pn u.pd v.pn v.pd * v.pn * u.pd, u.pd * v.pd)).1 ((u.pn * v.pd - flL u.pn u.pd v.pn v.pd * v.pn * u.pd, u.pd * v.pd)).2).2))) σ := fun h => k1 _ (by rw [en, resL, if_pos h])
  have k2' : ¬ (isD u || isD v) = true → (((u.pn * v.pd - flL u.pn u.pd v.pn v.pd * v.pn * u.pd, u.pd * v.pd)).1.fdiv ((u.pn * v.pd - flL u.pn u.pd v.pn v.pd * v.pn * u.pd, u.pd * v.pd)).2).natAbs ≤ 2147483647 → K (.d (LD (.w false (((u.pn * v.pd - flL u.pn u.pd v.pn v.pd * v.pn * u.pd, u.pd * v.pd)).1.fdiv ((u.pn * v.pd - flL u.pn u.pd v.pn v.pd * v.pn * u.pd, u.pd * v.pd)).2)))) σ := fun h h' => k1 _ (by rw [en, resL, if_neg h, if_pos h'])
  have k3' : ¬ (isD u || isD v) = true → ¬ (((u.pn * v.pd - flL u.pn u.pd v.pn v.pd * v.pn * u.pd, u.pd * v.pd)).1.fdiv ((u.pn * v.pd - flL u.pn u.pd v.pn v.pd * v.pn * u.pd, u.pd * v.pd)).2).natAbs ≤ 2147483647 → K N σ := fun h h' => k0 (by rw [en, resL, if_neg h, if_neg h'])
  refine go3 "name" "one" "two" [("a", .undef), ("b", .undef), ("c", .undef), ("d", .undef), ("floor_of", .undef), ("n", .undef), ("under", .undef)] [("_law_pair", .fn "_law_pair"), ("abs", .cv (.builtin "abs")), ("_law_reduced", .fn "_law_reduced")] rfl hK (fo_law_numbers _) (by decide +kernel) (GS.cons (gv_law_pair hK) (GS.cons (gvb_abs hK) (GS.cons (gv_law_reduced hK) GS.nil))) ?_
  conv => arg 6; whnf
  with_reducible
   refine xs_cons ?_
   refine ex_unpack2 (fun _ => rfl) (fun _ => rfl) ?_
   walk_at "s0"
   walk_at "s1"
   apply c_law_pair; iterate 2 walk_at "side"
   refine ⟨_, _, .dt rfl, ?_⟩
   walk_at "s6"
   walk_at "s6"
   refine xs_cons ?_
   refine ex_unpack2 (fun _ => rfl) (fun _ => rfl) ?_
   walk_at "s0"
   walk_at "s1"
   apply c_law_pair; iterate 2 walk_at "side"
   refine ⟨_, _, .dt rfl, ?_⟩
   walk_at "s6"
   walk_at "s6"
   refine' xs_if0 ?_
   refine ts_bool ?_
   refine bs_and ?_
   walk_at "s13"
   refine ev_list_a ?_
   refine' es_s ?_
   refine' es_s ?_
   refine' es_s1 ?_
   walk_at "s18"
   refine ⟨_, LstOf.d rfl, ?_⟩
   walk_at "s4"
   walk_at "s14"
   refine bs_and ?_
   refine' ts_eqi_l ?l_1 ?_; (case l_1 => walk_at "lk")
   walk_at "s24"
   walk_at "s9"
   refine' xs_if0 ?_
   refine ts_bool ?_
   refine bs_and ?_
   walk_at "s20"
   walk_at "s9"
   walk_at "s9"
   refine' xs_if0 ?_
   walk_at "s20"
   walk_at "s9"
   refine' xs_if0 ?_
   walk_at "s20"
   walk_at "s9"
   walk_at "s16"
   refine' ev_floor ?la_2 ?lb_2 ?lc_2 ?ld_2 ?hb_2 ?sa_2 ?sb_2 ?sc_2 ?sd_2 ?_; (case la_2 => walk_at "lk"); (case lb_2 => walk_at "lk"); (case lc_2 => walk_at "lk"); (case ld_2 => walk_at "lk"); (case hb_2 => assumption); (case sa_2 => assumption); (case sb_2 => assumption); (case sc_2 => assumption); (case sd_2 => assumption)
   walk_at "s6"
   refine xs_cons ?_
   refine ex_unpack2 (fun _ => rfl) (fun _ => rfl) ?_
   refine ev_get (fun _ => rfl) (fun _ => rfl) rfl (fun _ => rfl) ?_
   refine ev_dict rfl (fun _ => (by simp [pairsOf])) (fun _ => (by simp [pairsOf])) ?_
   refine ds_cons ?_
   refine pu_pair (fun _ => rfl) (fun _ => rfl) ?_
   refine pu_bin (.inl rfl) ?_
   refine pu_bin (.inr (.inr rfl)) ?_
   walk_at "s12"
   walk_at "s12"
   walk_at "s26"
   refine pu_bin (.inr (.inr rfl)) ?_
   walk_at "s12"
   walk_at "s12"
   walk_at "s26"
   walk_at "s26"
   refine pu_bin (.inr (.inr rfl)) ?_
   walk_at "s12"
   walk_at "s12"
   walk_at "s26"
   refine ⟨_, _, rfl, rfl, ?_⟩
   refine ds_cons ?_
   refine pu_pair (fun _ => rfl) (fun _ => rfl) ?_
   refine pu_bin (.inr (.inl rfl)) ?_
   refine pu_bin (.inr (.inr rfl)) ?_
   walk_at "s12"
   walk_at "s12"
   walk_at "s26"
   refine pu_bin (.inr (.inr rfl)) ?_
   walk_at "s12"
   walk_at "s12"
   walk_at "s26"
   walk_at "s26"
   refine pu_bin (.inr (.inr rfl)) ?_
   walk_at "s12"
   walk_at "s12"
   walk_at "s26"
   refine ⟨_, _, rfl, rfl, ?_⟩
   refine ds_cons ?_
   refine pu_pair (fun _ => rfl) (fun _ => rfl) ?_
   refine pu_bin (.inr (.inr rfl)) ?_
   walk_at "s12"
   walk_at "s12"
   walk_at "s26"
   refine pu_bin (.inr (.inr rfl)) ?_
   walk_at "s12"
   walk_at "s12"
   walk_at "s26"
   refine ⟨_, _, rfl, rfl, ?_⟩
   refine ds_nil ?_
   walk_at "s18"
   refine ⟨_, _, (rfl : AV.dct _ _ = AV.dct _ _), ?_⟩
   walk_at "s5"
   refine ⟨_, rfl, ?_⟩
   refine ev_tuple_a ?_
   walk_at "s3"
   refine' es_i1 ?_
   walk_at "s17"
   refine ⟨_, TupOf.d rfl, ?_⟩
  refine ⟨_, _, (by assumption : SeqAV "tuple" _ _), ?_⟩
  with_reducible
   walk_at "s6"
   walk_at "s6"
   refine' xs_if0 ?_
   walk_at "s20"
   walk_at "s14"
   refine xs_cons ?_
  refine' ex_swap2 ?h1_3 ?h2_3 ?h3_3 ?h4_3 ?h5_3 ?h6_3 ?h7_3 ?_; (case h1_3 => decide); (case h2_3 => decide); (case h3_3 => decide); (case h4_3 => decide); (case h5_3 => rfl); (case h6_3 => rfl); (case h7_3 => rfl)
  with_reducible
   refine ev_tuple_a ?_
   refine es_cons (fun _ => rfl) ?_
   refine ev_bin ?_
   walk_at "s11"
   walk_at "s21"
   refine ev_bin ?_
   walk_at "s11"
   walk_at "s21"
   walk_at "s5"
   walk_at "s21"
   refine bin_sub ?_
   walk_at "s19"
   walk_at "s11"
   walk_at "s21"
   walk_at "s17"
   refine ⟨_, TupOf.d rfl, ?_⟩
   refine ⟨_, _, .dt rfl, ?_⟩
   walk_at "s6"
   walk_at "s6"
   refine xs_nil ?_
   refine' xs_if0 ?_
   refine ts_cmp rfl ?_
   refine ev_cstr ?_
   refine ev_list_a ?_
   refine es_cons (fun _ => rfl) ?_
   walk_at "s2"
   walk_at "s7"
   walk_at "s19"
   walk_at "s2"
   walk_at "s7"
   walk_at "s17"
   refine ⟨_, LstOf.d rfl, ?_⟩
   walk_at "s4"
  refine ⟨fun h => ?_, fun h => ?_⟩
  · have h : (isD u || isD v) = true := hz.symm.trans h
    with_reducible
     refine' xs_ret ?_
     refine ev_tuple_a ?_
     refine' es_s ?_
     walk_at "s19"
     walk_at "s0"
     walk_at "s3"
     walk_at "s1"
     apply c_law_reduced; iterate 3 walk_at "side"
     walk_at "s17"
     refine ⟨_, TupOf.d rfl, ?_⟩
     walk_at "s10"
    exact k1' h
  · have h : ¬ (isD u || isD v) = true := by rw [show (isD u || isD v) = false from hz.symm.trans h]; decide
    with_reducible
     refine' xs_ret ?_
     refine ev_ifexp ?_
     refine' ts_cmp_i rfl ?_
     walk_at "s0"
     walk_at "s19"
     walk_at "s11"
     refine bin_div (by first | assumption | decide | omega) (by first | assumption | decide | omega) ?_
     refine bl_abs ?_
     refine cmp_le_int ?_
    refine ⟨fun h' => ?_, fun h' => ?_⟩
    · have h' : ((_ : Nat) : Int) ≤ 2147483647 := of_decide_eq_true h'
      with_reducible
       refine ev_tuple_a ?_
       refine' es_s ?_
       walk_at "s19"
       walk_at "s11"
       refine bin_div (by first | assumption | decide | omega) (by first | assumption | decide | omega) ?_
       walk_at "s17"
       refine ⟨_, TupOf.d rfl, ?_⟩
       walk_at "s10"
      exact k2' h (by first | omega | (dsimp only; omega))
    · have h' : ¬ ((_ : Nat) : Int) ≤ 2147483647 := of_decide_eq_false h'
      with_reducible
       refine ev_cnone ?_
       walk_at "s10"
      exact k3' h (by first | omega | (dsimp only; omega))
noncomputable def ValOK (cx : Cx) (t : Tr) : Prop := ∀ (r : Nat), t.ht ≤ r → ∀ (σ : Sig) (K : AV → Sig → Prop) (KE : Sig → Prop), t.WF → K (VT t) σ → CalTo cx (r + 2) KE (.fn "_law_value") [.d (TD t)] σ K
theorem kd_name : ∀ u : Lf, (u.kd == ("name" : Str)) = false
  | .w false _ => by show (Str.ofString "integer" == Str.ofString "name") = false; decide +kernel
  | .w true _ => by show (Str.ofString "logical" == Str.ofString "name") = false; decide +kernel
  | .d _ _ => by show (Str.ofString "double" == Str.ofString "name") = false; decide +kernel
  | .c => by show (Str.ofString "character" == Str.ofString "name") = false; decide +kernel
theorem kd_call' (u : Lf) : (u.kd != ("call" : Str)) = true := by have := kd_call u; simpa [bne] using this
theorem val_leaf (hK : cx.K = HK P) (u : Lf) : ValOK cx (.leaf u) := by
  intro r _ σ K KE _ k
  have h1 := kd_name u
  have h2 := kd_call' u
  have k : K (V u) σ := k
  show CalTo cx _ _ (.fn "_law_value") [.d (.tuple [.str u.kd, u.item])] _ _
  refine go1 "tree" [("tags", .undef)] [("Symbol", .fn "Symbol"), ("Vector", .fn "Vector"), ("len", .cv (.builtin "len")), ("Call", .fn "Call")] rfl hK (fo_law_value _) (by decide +kernel) (GS.cons (gv_Symbol hK) (GS.cons (gv_Vector hK) (GS.cons (gvb_len hK) (GS.cons (gv_Call hK) GS.nil)))) ?_
  conv => arg 6; whnf
  with_reducible
   refine' xs_if0 ?_
   refine' ts_cmp_s rfl ?_
   walk_at "s2"
   walk_at "s7"
   refine cmp_eq_str ?_
   walk_at "s24"
   refine' xs_if0 ?_
   refine' ts_cmp_s rfl ?_
   walk_at "s2"
   walk_at "s7"
   refine cmp_ne_str ?_
   refine ways_t (by with_reducible assumption) ?_
   refine' xs_ret ?_
   walk_at "s0"
   refine es_cons (fun _ => rfl) ?_
   walk_at "s2"
   walk_at "s7"
   walk_at "s19"
   refine ev_list_a ?_
   walk_at "s19"
   walk_at "s2"
   walk_at "s7"
   walk_at "s17"
   refine ⟨_, LstOf.d rfl, ?_⟩
   apply c_Vector; iterate 1 walk_at "side"
   walk_at "s10"
  exact k
theorem val_x (hK : cx.K = HK P) : ValOK cx .x := by
  intro r _ σ K KE _ k
  have k : K (.sym "x") σ := k
  show CalTo cx _ _ (.fn "_law_value") [.d (.tuple [.str "name", .str "x"])] _ _
  refine go1 "tree" [("tags", .undef)] [("Symbol", .fn "Symbol"), ("Vector", .fn "Vector"), ("len", .cv (.builtin "len")), ("Call", .fn "Call")] rfl hK (fo_law_value _) (by decide +kernel) (GS.cons (gv_Symbol hK) (GS.cons (gv_Vector hK) (GS.cons (gvb_len hK) (GS.cons (gv_Call hK) GS.nil)))) ?_
  conv => arg 6; whnf
  with_reducible
   refine' xs_if0 ?_
   refine' ts_cmp_s rfl ?_
   walk_at "s2"
   walk_at "s7"
   refine cmp_eq_str ?_
   walk_at "s14"
   refine' xs_ret ?_
   walk_at "s0"
   walk_at "s19"
   walk_at "s2"
   walk_at "s7"
   apply c_Symbol; iterate 1 walk_at "side"
   walk_at "s10"
  exact k
section val
theorem val_un (hK : cx.K = HK P) {op : Str} {t : Tr} {tag : Bool} (ih : ValOK cx t) : ValOK cx (.un op t tag) := by
  intro r hr σ K KE wf k
  have ht : t.ht + 1 ≤ r := hr
  have hne : VT t ≠ .undef := VTne
  obtain ⟨r, rfl⟩ := ex_pred ht
  have k : K (.call [.sym op, VT t] [.none, tagP tag]) σ := k
  show CalTo cx _ _ (.fn "_law_value") [.d (.tuple [.str "call", .str op, .list [TD t], .bool tag])] _ _
  refine go1 "tree" [("tags", .undef)] [("Symbol", .fn "Symbol"), ("Vector", .fn "Vector"), ("len", .cv (.builtin "len")), ("Call", .fn "Call")] rfl hK (fo_law_value _) (by decide +kernel) (GS.cons (gv_Symbol hK) (GS.cons (gv_Vector hK) (GS.cons (gvb_len hK) (GS.cons (gv_Call hK) GS.nil)))) ?_
  conv => arg 6; whnf
  cases tag with
  | false =>
    with_reducible
     refine' xs_if0 ?_
     refine' ts_cmp_s rfl ?_
     walk_at "s2"
     walk_at "s7"
     refine cmp_eq_str ?_
     walk_at "s9"
     refine' xs_if0 ?_
     refine' ts_cmp_s rfl ?_
     walk_at "s2"
     walk_at "s7"
     refine cmp_ne_str ?_
     walk_at "s9"
     walk_at "s16"
     refine ev_bin ?_
     refine ev_list_f ?_
     walk_at "s19"
     refine ev_cnone ?_
     walk_at "s18"
     walk_at "s0"
     walk_at "s19"
     walk_at "s2"
     walk_at "s7"
     refine bl_len (.dl rfl) (.inr rfl) (by exact Nat.le_of_ble_eq_true rfl) ?_
     refine bin_mul_list (a := .undef) (b := .undef) (by exact Nat.le_of_ble_eq_true rfl) ?_
     intro
     walk_at "s6"
     refine' xs_if0 ?_
     refine ts_value (fun _ _ => rfl) ?_
     walk_at "s2"
     walk_at "s7"
     refine tru_bool ?_
     walk_at "s9"
     refine' xs_ret ?_
     walk_at "s0"
     refine es_cons (fun _ => rfl) ?_
     refine ev_bin ?_
     refine ev_list_f ?_
     walk_at "s19"
     walk_at "s0"
     walk_at "s19"
     walk_at "s2"
     walk_at "s7"
     apply c_Symbol; iterate 1 walk_at "side"
     walk_at "s17"
    refine' ev_comp_f (cap := []) (gl' := [("_law_value", .fn "_law_value")]) rfl (fun _ _ => rfl) ?hok (Caps.nil) (GS.cons (gv_law_value hK) GS.nil) ?_
    case hok => kernel_rfl
    with_reducible
     refine ie_seq ?_
     walk_at "s2"
     walk_at "s7"
     refine ⟨_, _, .dl rfl, .inr rfl, ?_⟩
     walk_at "s17"
    refine cp_cons ?_
    with_reducible
     walk_at "s0"
     walk_at "s1"
    refine ih r (by omega) _ _ _ wf.2 ?_
    refine cp_nil ?_
    with_reducible
     refine bin_add_list .lst .lst (by exact Nat.le_of_ble_eq_true rfl) ?_
     walk_at "s19"
     refine ev_bin ?_
     refine ev_list_f ?_
     walk_at "s19"
     refine ev_cnone ?_
     walk_at "s18"
     walk_at "s5"
     refine bin_add_list_d .lst (.lref (by walk_at "mem")) (by exact Nat.le_of_ble_eq_true rfl) (by with_unfolding_all exact rfl) ?_
     apply c_Call; iterate 1 walk_at "side"
     refine ⟨_, List.sublist_cons_self _ _, ?_⟩
    exact k
  | true =>
    with_reducible
     refine' xs_if0 ?_
     refine' ts_cmp_s rfl ?_
     walk_at "s2"
     walk_at "s7"
     refine cmp_eq_str ?_
     walk_at "s9"
     refine' xs_if0 ?_
     refine' ts_cmp_s rfl ?_
     walk_at "s2"
     walk_at "s7"
     refine cmp_ne_str ?_
     walk_at "s9"
     walk_at "s16"
     refine ev_bin ?_
     refine ev_list_f ?_
     walk_at "s19"
     refine ev_cnone ?_
     walk_at "s18"
     walk_at "s0"
     walk_at "s19"
     walk_at "s2"
     walk_at "s7"
     refine bl_len (.dl rfl) (.inr rfl) (by exact Nat.le_of_ble_eq_true rfl) ?_
     refine bin_mul_list (a := .undef) (b := .undef) (by exact Nat.le_of_ble_eq_true rfl) ?_
     intro
     walk_at "s6"
     refine' xs_if0 ?_
     refine ts_value (fun _ _ => rfl) ?_
     walk_at "s2"
     walk_at "s7"
     refine tru_bool ?_
     walk_at "s14"
     refine xs_cons ?_
     refine ex_setitem (fun _ => rfl) ?_
     refine ev_cstr ?_
     walk_at "s5"
     refine ev_cint ?_
     refine' si_lref ?h0_1 ?hk_1 ?hn_1 ?su_1 ?_; (case su_1 => walk_at "su"); (case h0_1 => decide); (case hk_1 => decide); (case hn_1 => with_unfolding_all exact of_decide_eq_true rfl)
     refine xs_nil ?_
     refine' xs_ret ?_
     walk_at "s0"
     refine es_cons (fun _ => rfl) ?_
     refine ev_bin ?_
     refine ev_list_f ?_
     walk_at "s19"
     walk_at "s0"
     walk_at "s19"
     walk_at "s2"
     walk_at "s7"
     apply c_Symbol; iterate 1 walk_at "side"
     walk_at "s17"
    refine' ev_comp_f (cap := []) (gl' := [("_law_value", .fn "_law_value")]) rfl (fun _ _ => rfl) ?hok (Caps.nil) (GS.cons (gv_law_value hK) GS.nil) ?_
    case hok => kernel_rfl
    with_reducible
     refine ie_seq ?_
     walk_at "s2"
     walk_at "s7"
     refine ⟨_, _, .dl rfl, .inr rfl, ?_⟩
     walk_at "s17"
    refine cp_cons ?_
    with_reducible
     walk_at "s0"
     walk_at "s1"
    refine ih r (by omega) _ _ _ wf.2 ?_
    refine cp_nil ?_
    with_reducible
     refine bin_add_list .lst .lst (by exact Nat.le_of_ble_eq_true rfl) ?_
     walk_at "s19"
     refine ev_bin ?_
     refine ev_list_f ?_
     walk_at "s19"
     refine ev_cnone ?_
     walk_at "s18"
     walk_at "s5"
     refine bin_add_list_d .lst (.lref (by walk_at "mem")) (by exact Nat.le_of_ble_eq_true rfl) (by with_unfolding_all exact rfl) ?_
     apply c_Call; iterate 1 walk_at "side"
     refine ⟨_, List.sublist_cons_self _ _, ?_⟩
    exact k
theorem val_bin (hK : cx.K = HK P) {op : Str} {a b : Tr} {tag : Bool} (iha : ValOK cx a) (ihb : ValOK cx b) : ValOK cx (.bin op a b tag) := by
  intro r hr σ K KE wf k
  have hm : max a.ht b.ht + 1 ≤ r := hr
  have hta : a.ht ≤ max a.ht b.ht := Nat.le_max_left _ _
  have htb : b.ht ≤ max a.ht b.ht := Nat.le_max_right _ _
  have hna : VT a ≠ .undef := VTne
  have hnb : VT b ≠ .undef := VTne
  obtain ⟨r, rfl⟩ := ex_pred hm
  have k : K (.call [.sym op, VT a, VT b] [.none, tagP tag, .none]) σ := k
  show CalTo cx _ _ (.fn "_law_value") [.d (.tuple [.str "call", .str op, .list [TD a, TD b], .bool tag])] _ _
  refine go1 "tree" [("tags", .undef)] [("Symbol", .fn "Symbol"), ("Vector", .fn "Vector"), ("len", .cv (.builtin "len")), ("Call", .fn "Call")] rfl hK (fo_law_value _) (by decide +kernel) (GS.cons (gv_Symbol hK) (GS.cons (gv_Vector hK) (GS.cons (gvb_len hK) (GS.cons (gv_Call hK) GS.nil)))) ?_
  conv => arg 6; whnf
  cases tag with
  | false =>
    with_reducible
     refine' xs_if0 ?_
     refine' ts_cmp_s rfl ?_
     walk_at "s2"
     walk_at "s7"
     refine cmp_eq_str ?_
     walk_at "s9"
     refine' xs_if0 ?_
     refine' ts_cmp_s rfl ?_
     walk_at "s2"
     walk_at "s7"
     refine cmp_ne_str ?_
     walk_at "s9"
     walk_at "s16"
     refine ev_bin ?_
     refine ev_list_f ?_
     walk_at "s19"
     refine ev_cnone ?_
     walk_at "s18"
     walk_at "s0"
     walk_at "s19"
     walk_at "s2"
     walk_at "s7"
     refine bl_len (.dl rfl) (.inr rfl) (by exact Nat.le_of_ble_eq_true rfl) ?_
     refine bin_mul_list (a := .undef) (b := .undef) (by exact Nat.le_of_ble_eq_true rfl) ?_
     intro
     walk_at "s6"
     refine' xs_if0 ?_
     refine ts_value (fun _ _ => rfl) ?_
     walk_at "s2"
     walk_at "s7"
     refine tru_bool ?_
     walk_at "s9"
     refine' xs_ret ?_
     walk_at "s0"
     refine es_cons (fun _ => rfl) ?_
     refine ev_bin ?_
     refine ev_list_f ?_
     walk_at "s19"
     walk_at "s0"
     walk_at "s19"
     walk_at "s2"
     walk_at "s7"
     apply c_Symbol; iterate 1 walk_at "side"
     walk_at "s17"
    refine' ev_comp_f (cap := []) (gl' := [("_law_value", .fn "_law_value")]) rfl (fun _ _ => rfl) ?hok (Caps.nil) (GS.cons (gv_law_value hK) GS.nil) ?_
    case hok => kernel_rfl
    with_reducible
     refine ie_seq ?_
     walk_at "s2"
     walk_at "s7"
     refine ⟨_, _, .dl rfl, .inr rfl, ?_⟩
     walk_at "s17"
    refine cp_cons ?_
    with_reducible
     walk_at "s0"
     walk_at "s1"
    refine iha r (by omega) _ _ _ wf.2.1 ?_
    refine cp_cons ?_
    with_reducible
     walk_at "s0"
     walk_at "s1"
    refine ihb r (by omega) _ _ _ wf.2.2 ?_
    refine cp_nil ?_
    with_reducible
     refine bin_add_list .lst .lst (by exact Nat.le_of_ble_eq_true rfl) ?_
     walk_at "s19"
     refine ev_bin ?_
     refine ev_list_f ?_
     walk_at "s19"
     refine ev_cnone ?_
     walk_at "s18"
     walk_at "s5"
     refine bin_add_list_d .lst (.lref (by walk_at "mem")) (by exact Nat.le_of_ble_eq_true rfl) (by with_unfolding_all exact rfl) ?_
     apply c_Call; iterate 1 walk_at "side"
     refine ⟨_, List.sublist_cons_self _ _, ?_⟩
    exact k
  | true =>
    with_reducible
     refine' xs_if0 ?_
     refine' ts_cmp_s rfl ?_
     walk_at "s2"
     walk_at "s7"
     refine cmp_eq_str ?_
     walk_at "s9"
     refine' xs_if0 ?_
     refine' ts_cmp_s rfl ?_
     walk_at "s2"
     walk_at "s7"
     refine cmp_ne_str ?_
     walk_at "s9"
     walk_at "s16"
     refine ev_bin ?_
     refine ev_list_f ?_
     walk_at "s19"
     refine ev_cnone ?_
     walk_at "s18"
     walk_at "s0"
     walk_at "s19"
     walk_at "s2"
     walk_at "s7"
     refine bl_len (.dl rfl) (.inr rfl) (by exact Nat.le_of_ble_eq_true rfl) ?_
     refine bin_mul_list (a := .undef) (b := .undef) (by exact Nat.le_of_ble_eq_true rfl) ?_
     intro
     walk_at "s6"
     refine' xs_if0 ?_
     refine ts_value (fun _ _ => rfl) ?_
     walk_at "s2"
     walk_at "s7"
     refine tru_bool ?_
     walk_at "s14"
     refine xs_cons ?_
     refine ex_setitem (fun _ => rfl) ?_
     refine ev_cstr ?_
     walk_at "s5"
     refine ev_cint ?_
     refine' si_lref ?h0_1 ?hk_1 ?hn_1 ?su_1 ?_; (case su_1 => walk_at "su"); (case h0_1 => decide); (case hk_1 => decide); (case hn_1 => with_unfolding_all exact of_decide_eq_true rfl)
     refine xs_nil ?_
     refine' xs_ret ?_
     walk_at "s0"
     refine es_cons (fun _ => rfl) ?_
     refine ev_bin ?_
     refine ev_list_f ?_
     walk_at "s19"
     walk_at "s0"
     walk_at "s19"
     walk_at "s2"
     walk_at "s7"
     apply c_Symbol; iterate 1 walk_at "side"
     walk_at "s17"
    refine' ev_comp_f (cap := []) (gl' := [("_law_value", .fn "_law_value")]) rfl (fun _ _ => rfl) ?hok (Caps.nil) (GS.cons (gv_law_value hK) GS.nil) ?_
    case hok => kernel_rfl
    with_reducible
     refine ie_seq ?_
     walk_at "s2"
     walk_at "s7"
     refine ⟨_, _, .dl rfl, .inr rfl, ?_⟩
     walk_at "s17"
    refine cp_cons ?_
    with_reducible
     walk_at "s0"
     walk_at "s1"
    refine iha r (by omega) _ _ _ wf.2.1 ?_
    refine cp_cons ?_
    with_reducible
     walk_at "s0"
     walk_at "s1"
    refine ihb r (by omega) _ _ _ wf.2.2 ?_
    refine cp_nil ?_
    with_reducible
     refine bin_add_list .lst .lst (by exact Nat.le_of_ble_eq_true rfl) ?_
     walk_at "s19"
     refine ev_bin ?_
     refine ev_list_f ?_
     walk_at "s19"
     refine ev_cnone ?_
     walk_at "s18"
     walk_at "s5"
     refine bin_add_list_d .lst (.lref (by walk_at "mem")) (by exact Nat.le_of_ble_eq_true rfl) (by with_unfolding_all exact rfl) ?_
     apply c_Call; iterate 1 walk_at "side"
     refine ⟨_, List.sublist_cons_self _ _, ?_⟩
    exact k
end val
theorem c_law_value (hK : cx.K = HK P) : ∀ t : Tr, ValOK cx t
  | .leaf u => val_leaf hK u
  | .x => val_x hK
  | .un _ t _ => val_un hK (c_law_value hK t)
  | .bin _ a b _ => val_bin hK (c_law_value hK a) (c_law_value hK b)
noncomputable def rD : Option (Option Lf) → PyData | none => SKIP | some none => .none | some (some u) => LD u
noncomputable def unL (op : Str) (u : Lf) : Option Lf :=
  if op = "(" then some u else match u with
    | .c => none
    | u => some (if op = "!" then .w true (if u.pn = 0 then 1 else 0) else match u with | .d n m => .d (-n) m | u => .w false (-u.pn))
theorem lay_rD : ∀ r : Option (Option Lf), PyData.canLay0 (rD r) = true
  | none => by decide +kernel
  | some none => rfl
  | some (some (.w false _)) => by simp only [rD, LD, PyData.canLay0, PyData.canLayAll0, Bool.and_true, Lf.item]; exact (Lf.kn (.w false 0)).facts.lay
  | some (some (.w true _)) => by simp only [rD, LD, PyData.canLay0, PyData.canLayAll0, Bool.and_true, Lf.item]; exact (Lf.kn (.w true 0)).facts.lay
  | some (some (.d _ _)) => by simp only [rD, LD, PyData.canLay0, PyData.canLayAll0, Bool.and_true, Lf.item]; exact (Lf.kn (.d 0 0)).facts.lay
  | some (some .c) => by decide +kernel
theorem skip_in (u : Lf) : PyData.eqv (LD u) SKIP = false := by simp [LD, SKIP, PyData.eqv, PyData.eqvAll]
theorem dep_rD : ∀ r : Option (Option Lf), PyData.depth (rD r) ≤ 4
  | none => by simp [rD, SKIP, PyData.depth, PyData.depthAll]
  | some none => by simp [rD, PyData.depth]
  | some (some (.w _ _)) => by simp [rD, LD, PyData.depth, PyData.depthAll, Lf.item]
  | some (some (.d _ _)) => by simp [rD, LD, PyData.depth, PyData.depthAll, Lf.item]
  | some (some .c) => by simp [rD, LD, PyData.depth, PyData.depthAll, Lf.item]
noncomputable def RecOK (cx : Cx) (t : Tr) : Prop := ∀ (r : Nat), t.ht ≤ r → t.ht ≤ 4 → ∀ (σ : Sig) (K : AV → Sig → Prop) (KE : Sig → Prop), t.WF → K (.d (rD (reck t))) σ → CalTo cx (r + 4) KE (.fn "_law_reckoned") [.d (TD t)] σ K
theorem rec_leaf (hK : cx.K = HK P) (u : Lf) : RecOK cx (.leaf u) := by
  intro r _ _ σ K KE _ k
  have h1 := kd_name u
  have h2 := kd_call' u
  have k : K (.d (LD u)) σ := k
  show CalTo cx _ _ (.fn "_law_reckoned") [.d (.tuple [.str u.kd, u.item])] _ _
  refine go1 "tree" [("sides", .undef), ("name", .undef), ("pairs", .undef), ("kind", .undef), ("signs", .undef), ("far", .undef)] [("len", .cv (.builtin "len")), ("_law_numbers", .fn "_law_numbers")] rfl hK (fo_law_reckoned _) (by decide +kernel) (GS.cons (gvb_len hK) (GS.cons (gv_law_numbers hK) GS.nil)) ?_
  conv => arg 6; whnf
  with_reducible
   refine' xs_if0 ?_
   refine' ts_cmp_s rfl ?_
   walk_at "s2"
   walk_at "s7"
   refine cmp_eq_str ?_
   walk_at "s24"
   refine' xs_if0 ?_
   refine' ts_cmp_s rfl ?_
   walk_at "s2"
   walk_at "s7"
   refine cmp_ne_str ?_
   refine ways_t (by with_reducible assumption) ?_
   walk_at "s22"
   walk_at "s10"
  exact k
theorem rec_x (hK : cx.K = HK P) : RecOK cx .x := by
  intro r _ _ σ K KE _ k
  have k : K N σ := k
  show CalTo cx _ _ (.fn "_law_reckoned") [.d (.tuple [.str "name", .str "x"])] _ _
  refine go1 "tree" [("sides", .undef), ("name", .undef), ("pairs", .undef), ("kind", .undef), ("signs", .undef), ("far", .undef)] [("len", .cv (.builtin "len")), ("_law_numbers", .fn "_law_numbers")] rfl hK (fo_law_reckoned _) (by decide +kernel) (GS.cons (gvb_len hK) (GS.cons (gv_law_numbers hK) GS.nil)) ?_
  conv => arg 6; whnf
  with_reducible
   refine' xs_if0 ?_
   refine' ts_cmp_s rfl ?_
   walk_at "s2"
   walk_at "s7"
   refine cmp_eq_str ?_
   walk_at "s14"
   refine' xs_ret_n ?_
   walk_at "s10"
  exact k
noncomputable def unR (op : Str) (tag : Bool) : Option (Option Lf) → Option (Option Lf)
  | none => none
  | some r => if tag || op == "f" then some none else match r with
    | none => some none
    | some u => some (unF op u)
theorem reck_unR {op : Str} {t : Tr} {tag : Bool} : reck (.un op t tag) = unR op tag (reck t) := by
  have key : ∀ x : Option (Option Lf), (match x with
    | none => none
    | some r => if tag || op == "f" then some none else match r with
      | none => some none
      | some u => some (unF op u)) = unR op tag x := fun x => by
    cases x with
    | none => rfl
    | some r => cases r <;> rfl
  rw [← key, reck]
  all_goals cases reck t with
    | none => rfl
    | some r => cases r <;> rfl
theorem unR_none {op : Str} {tag : Bool} : unR op tag (some none) = some none := by
  show (if (tag || op == "f") = true then some none else some none) = some none
  split <;> rfl
theorem unF_m {u : Lf} (hu : u ≠ .c) : unF "-" u = some (match u with | .d n m => .d (-n) m | u => .w false (0 - u.pn)) := by
  have e : ¬ ((Str.ofString "-" : Str) = "(") := by decide +kernel
  cases u <;> first | exact absurd rfl hu | simp [unF, e, Lf.pn]
theorem unF_n {u : Lf} (hu : u ≠ .c) : unF "!" u = some (.w true (1 - tr u.pn)) := by
  have e : ¬ ((Str.ofString "!" : Str) = "(") := by decide +kernel
  have e' : ¬ ((Str.ofString "!" : Str) = "-") := by decide +kernel
  cases u <;> first | exact absurd rfl hu | simp [unF, e, e', Lf.pn]
theorem rec_un (hK : cx.K = HK P) {op : Str} {t : Tr} {tag : Bool} (ih : RecOK cx t) : RecOK cx (.un op t tag) := by
  intro r hr h4 σ K KE wf k
  have ht : t.ht + 1 ≤ r := hr
  have ht4 : t.ht + 1 ≤ 4 := h4
  obtain ⟨r, rfl⟩ := ex_pred ht
  have lo := wf_lay_un wf.1
  show CalTo cx _ _ (.fn "_law_reckoned") [.d (.tuple [.str "call", .str op, .list [TD t], .bool tag])] _ _
  rw [reck_unR] at k
  refine go1 "tree" [("sides", .undef), ("name", .undef), ("pairs", .undef), ("kind", .undef), ("signs", .undef), ("far", .undef)] [("len", .cv (.builtin "len")), ("_law_numbers", .fn "_law_numbers")] rfl hK (fo_law_reckoned _) (by decide +kernel) (GS.cons (gvb_len hK) (GS.cons (gv_law_numbers hK) GS.nil)) ?_
  conv => arg 6; whnf
  with_reducible
   refine' xs_if0 ?_
   refine' ts_cmp_s rfl ?_
   walk_at "s2"
   walk_at "s7"
   refine cmp_eq_str ?_
   walk_at "s9"
   refine' xs_if0 ?_
   refine' ts_cmp_s rfl ?_
   walk_at "s2"
   walk_at "s7"
   refine cmp_ne_str ?_
   walk_at "s9"
   refine xs_cons ?_
  refine' ex_comp_d (cap := []) (gl' := [("_law_reckoned", .fn "_law_reckoned")]) rfl (fun _ _ => rfl) ?hok (Caps.nil) (GS.cons (gv_law_reckoned hK) GS.nil) ?hy ?hl ?hnl ?_
  case hok => kernel_rfl
  case hy => rfl
  case hl => rfl
  case hnl => decide +kernel
  with_reducible
   refine ie_seq ?_
   walk_at "s2"
   walk_at "s7"
   refine ⟨_, _, .dl rfl, .inr rfl, ?_⟩
   walk_at "s17"
  refine cp_cons ?_
  with_reducible
   walk_at "s0"
   walk_at "s1"
  refine ih r (by omega) (by omega) _ _ _ wf.2 ?_
  generalize reck t = rt at k ⊢
  have hl : PyData.canLayAll0 [rD rt] = true := by simp [PyData.canLayAll0, lay_rD rt]
  have hd : PyData.depthAll [rD rt] ≤ 8 := by have := dep_rD rt; simp only [PyData.depthAll]; omega
  have l2 : PyData.canLay0 (.tuple [.str "skip"]) = true := by decide +kernel
  match rt, k, hl, hd with
  | none, k, hl, hd =>
    have i1 : ([rD none].any fun y => PyData.eqv y (.tuple [.str "skip"])) = true := by decide +kernel
    refine cp_nil ?_
    with_reducible
     refine ⟨_, rfl, ?_⟩
     walk_at "s6"
     refine' xs_if0 ?_
     refine ts_cmp rfl ?_
     refine ev_tuple_a ?_
     refine' es_s1 ?_
     walk_at "s18"
     refine ⟨_, TupOf.d rfl, ?_⟩
     walk_at "s5"
     walk_at "s4"
     refine ways_t (by with_reducible assumption) ?_
     refine' xs_ret ?_
     refine ev_tuple_a ?_
     refine' es_s1 ?_
     walk_at "s18"
     refine ⟨_, TupOf.d rfl, ?_⟩
     walk_at "s10"
    exact k
  | some none, k, hl, hd =>
    have k' : K N σ := by
      rw [unR_none] at k; exact k
    have i1 : ([rD (some none)].any fun y => PyData.eqv y (.tuple [.str "skip"])) = false := by decide +kernel
    have i2 : ([rD (some none)].any fun y => PyData.eqv y .none) = true := by decide +kernel
    cases tag with
    | true =>
      refine cp_nil ?_
      with_reducible
       refine ⟨_, rfl, ?_⟩
       walk_at "s6"
       refine' xs_if0 ?_
       refine ts_cmp rfl ?_
       refine ev_tuple_a ?_
       refine' es_s1 ?_
       walk_at "s18"
       refine ⟨_, TupOf.d rfl, ?_⟩
       walk_at "s5"
       walk_at "s4"
       walk_at "s24"
       refine' xs_if0 ?_
       refine ts_bool ?_
       refine bs_or ?_
       refine ts_value (fun _ _ => rfl) ?_
       walk_at "s2"
       walk_at "s7"
       refine tru_bool ?_
       walk_at "s14"
       walk_at "s14"
       refine' xs_ret_n ?_
       walk_at "s10"
      exact k'
    | false =>
      refine cp_nil ?_
      with_reducible
       refine ⟨_, rfl, ?_⟩
       walk_at "s6"
       refine' xs_if0 ?_
       refine ts_cmp rfl ?_
       refine ev_tuple_a ?_
       refine' es_s1 ?_
       walk_at "s18"
       refine ⟨_, TupOf.d rfl, ?_⟩
       walk_at "s5"
       walk_at "s4"
       walk_at "s24"
       refine' xs_if0 ?_
       refine ts_bool ?_
       refine bs_or ?_
       refine ts_value (fun _ _ => rfl) ?_
       walk_at "s2"
       walk_at "s7"
       refine tru_bool ?_
       walk_at "s9"
       refine bs_or ?_
       refine' ts_cmp_s rfl ?_
       walk_at "s2"
       walk_at "s7"
       refine cmp_eq_str ?_
      refine ⟨fun h => ?_, fun h => ?_⟩
      · with_reducible
         walk_at "s14"
         refine' xs_ret_n ?_
         walk_at "s10"
        exact k'
      · with_reducible
         refine bs_or ?_
         refine ts_cmp rfl ?_
         refine ev_cnone ?_
         walk_at "s5"
         walk_at "s4"
         refine ways_t (by with_reducible assumption) ?_
         walk_at "s14"
         refine' xs_ret_n ?_
         walk_at "s10"
        exact k'
  | some (some u), k, hl, hd =>
    have i1 : ([rD (some (some u))].any fun y => PyData.eqv y (.tuple [.str "skip"])) = false := by
      show (PyData.eqv (LD u) SKIP || false) = false
      rw [skip_in]; rfl
    have i2 : ([rD (some (some u))].any fun y => PyData.eqv y .none) = false := by simp [rD, LD, PyData.eqv]
    cases tag with
    | true =>
      have k' : K N σ := k
      refine cp_nil ?_
      with_reducible
       refine ⟨_, rfl, ?_⟩
       walk_at "s6"
       refine' xs_if0 ?_
       refine ts_cmp rfl ?_
       refine ev_tuple_a ?_
       refine' es_s1 ?_
       walk_at "s18"
       refine ⟨_, TupOf.d rfl, ?_⟩
       walk_at "s5"
       walk_at "s4"
       walk_at "s24"
       refine' xs_if0 ?_
       refine ts_bool ?_
       refine bs_or ?_
       refine ts_value (fun _ _ => rfl) ?_
       walk_at "s2"
       walk_at "s7"
       refine tru_bool ?_
       walk_at "s14"
       walk_at "s14"
       refine' xs_ret_n ?_
       walk_at "s10"
      exact k'
    | false =>
      refine cp_nil ?_
      with_reducible
       refine ⟨_, rfl, ?_⟩
       walk_at "s6"
       refine' xs_if0 ?_
       refine ts_cmp rfl ?_
       refine ev_tuple_a ?_
       refine' es_s1 ?_
       walk_at "s18"
       refine ⟨_, TupOf.d rfl, ?_⟩
       walk_at "s5"
       walk_at "s4"
       walk_at "s24"
       refine' xs_if0 ?_
       refine ts_bool ?_
       refine bs_or ?_
       refine ts_value (fun _ _ => rfl) ?_
       walk_at "s2"
       walk_at "s7"
       refine tru_bool ?_
       walk_at "s9"
       refine bs_or ?_
       refine' ts_cmp_s rfl ?_
       walk_at "s2"
       walk_at "s7"
       refine cmp_eq_str ?_
      refine ⟨fun h => ?_, fun h => ?_⟩
      · have k' : K N σ := by rw [show unR op false (some (some u)) = some none by simp [unR, h]] at k; exact k
        with_reducible
         walk_at "s14"
         refine' xs_ret_n ?_
         walk_at "s10"
        exact k'
      · rw [show unR op false (some (some u)) = some (unF op u) by simp [unR, h]] at k
        have op4 : op = "-" ∨ op = "!" ∨ op = "(" := by
          rcases wf.1 with z | z | z | z
          · exact .inl z
          · exact .inr (.inl z)
          · exact .inr (.inr z)
          · rw [z] at h; exact absurd h (by decide +kernel)
        by_cases hp : op = "("
        · subst hp
          have k' : K (.d (LD u)) σ := by rw [show unF "(" u = some u by simp [unF]] at k; exact k
          with_reducible
           refine bs_or ?_
           refine ts_cmp rfl ?_
           refine ev_cnone ?_
           walk_at "s5"
           walk_at "s4"
           walk_at "s24"
           refine bs_or_nil ?_
           walk_at "s9"
           walk_at "s16"
           walk_at "s2"
           walk_at "s7"
           walk_at "s6"
           refine' xs_if0 ?_
           walk_at "s20"
           walk_at "s14"
           refine' xs_ret ?_
           walk_at "s2"
           walk_at "s23"
           walk_at "s10"
          exact k'
        · have hp' : (op == ("(" : Str)) = false := by simpa using hp
          have lk : PyData.canLayAll0 [.str u.kd] = true := by simp [PyData.canLayAll0, u.kn.facts.lay]
          have nin : ([PyData.str "==", .str "<", .str ">=", .str "!="].any fun y => PyData.eqv y (.str op)) = false := by rcases op4 with rfl | rfl | rfl <;> decide +kernel
          with_reducible
           refine bs_or ?_
           refine ts_cmp rfl ?_
           refine ev_cnone ?_
           walk_at "s5"
           walk_at "s4"
           walk_at "s24"
           refine bs_or_nil ?_
           walk_at "s9"
           walk_at "s16"
           walk_at "s2"
           walk_at "s7"
           walk_at "s6"
           refine' xs_if0 ?_
           walk_at "s20"
           walk_at "s24"
           refine' xs_if0 ?_
           refine ts_cmp rfl ?_
           refine ev_cstr ?_
          refine' ev_comp_d (cap := []) (gl' := []) rfl (fun _ _ => rfl) ?hok (Caps.nil) (GS.nil) ?_
          case hok => kernel_rfl
          with_reducible
           refine ie_seq ?_
           walk_at "s5"
           refine ⟨_, _, .dl rfl, .inr rfl, ?_⟩
           walk_at "s17"
          refine cp_cons ?_
          with_reducible
           walk_at "s2"
          walk_at "s7"
          refine cp_nil ?_
          with_reducible
           refine ⟨_, rfl, ?_⟩
           walk_at "s4"
          by_cases hc : u = .c
          · subst hc
            have k' : K N σ := by rw [show unF op .c = none by simp [unF, hp]] at k; exact k
            with_reducible
             walk_at "s14"
             refine' xs_ret ?_
             refine ev_ifexp ?_
             walk_at "s13"
             refine ev_list_a ?_
             refine' es_s ?_
             refine' es_s ?_
             refine' es_s ?_
             refine' es_s1 ?_
             walk_at "s18"
             refine ⟨_, LstOf.d rfl, ?_⟩
             walk_at "s4"
             walk_at "s24"
             refine ev_cnone ?_
             walk_at "s10"
            exact k'
          · have i3 : ([PyData.str u.kd].any fun y => PyData.eqv y (.str "character")) = false := by
              have := Lf.nc hc
              simp [PyData.eqv, this]
            with_reducible
             walk_at "s24"
             refine xs_cons ?_
            refine' ex_comp_d (cap := []) (gl' := [("_law_pair", .fn "_law_pair")]) rfl (fun _ _ => rfl) ?hok (Caps.nil) (GS.cons (gv_law_pair hK) GS.nil) ?hy ?hl ?hnl ?_
            case hok => kernel_rfl
            case hy => rfl
            case hl => rfl
            case hnl => decide +kernel
            with_reducible
             refine ie_seq ?_
             walk_at "s5"
             refine ⟨_, _, .dl rfl, .inr rfl, ?_⟩
             walk_at "s17"
            refine cp_cons ?_
            with_reducible
             walk_at "s0"
             walk_at "s1"
            apply c_law_pair; iterate 2 walk_at "side"
            refine cp_nil ?_
            with_reducible
             refine ⟨_, rfl, ?_⟩
             walk_at "s6"
             refine' xs_if0 ?_
             refine' ts_cmp_i rfl ?_
             walk_at "s0"
             walk_at "s1"
             refine bl_len (.dl rfl) (.inr rfl) (by exact Nat.le_of_ble_eq_true rfl) ?_
             refine cmp_eq_int ?_
             refine ways_t rfl ?_
             refine' xs_if0 ?_
             walk_at "s20"
            rcases op4 with rfl | rfl | hx
            · rw [unF_m hc] at k
              match u, hc, k with
              | .w false n, _, k =>
                have k' : K (.d (.tuple [.str "integer", .int (-n)])) σ := by rw [show -n = 0 - n by omega]; exact k
                with_reducible
                 walk_at "s9"
                 walk_at "s16"
                 refine ev_ifexp ?_
                 refine' ts_cmp_s rfl ?_
                 refine ev_sub (fun _ _ => ⟨_, rfl⟩) ?_
                 walk_at "s2"
                 walk_at "s23"
                 refine ev_cint ?_
                walk_at "s7"
                with_reducible
                 refine cmp_eq_str ?_
                 refine ways_f rfl ?_
                 refine ev_cstr ?_
                 walk_at "s6"
                 refine' xs_ret ?_
                 refine ev_tuple_a ?_
                 walk_at "s3"
                 walk_at "s19"
                 refine ev_ifexp ?_
                 walk_at "s20"
                 walk_at "s9"
                 refine ev_neg ?_
                 refine ev_sub (fun _ _ => ⟨_, rfl⟩) ?_
                 walk_at "s2"
                 walk_at "s23"
                 refine ev_cint ?_
                walk_at "s7"
                with_reducible
                 refine ⟨_, rfl, ?_⟩
                 walk_at "s17"
                 refine ⟨_, TupOf.d rfl, ?_⟩
                 walk_at "s10"
                exact k'
              | .w true n, _, k =>
                have k' : K (.d (.tuple [.str "integer", .int (-n)])) σ := by rw [show -n = 0 - n by omega]; exact k
                with_reducible
                 walk_at "s9"
                 walk_at "s16"
                 refine ev_ifexp ?_
                 refine' ts_cmp_s rfl ?_
                 refine ev_sub (fun _ _ => ⟨_, rfl⟩) ?_
                 walk_at "s2"
                 walk_at "s23"
                 refine ev_cint ?_
                walk_at "s7"
                with_reducible
                 refine cmp_eq_str ?_
                 refine ways_f rfl ?_
                 refine ev_cstr ?_
                 walk_at "s6"
                 refine' xs_ret ?_
                 refine ev_tuple_a ?_
                 walk_at "s3"
                 walk_at "s19"
                 refine ev_ifexp ?_
                 walk_at "s20"
                 walk_at "s9"
                 refine ev_neg ?_
                 refine ev_sub (fun _ _ => ⟨_, rfl⟩) ?_
                 walk_at "s2"
                 walk_at "s23"
                 refine ev_cint ?_
                walk_at "s7"
                with_reducible
                 refine ⟨_, rfl, ?_⟩
                 walk_at "s17"
                 refine ⟨_, TupOf.d rfl, ?_⟩
                 walk_at "s10"
                exact k'
              | .d n m, _, k =>
                have k' : K (.d (.tuple [.str "double", .tuple [.int (-n), .int m]])) σ := k
                with_reducible
                 walk_at "s9"
                 walk_at "s16"
                 refine ev_ifexp ?_
                 refine' ts_cmp_s rfl ?_
                 refine ev_sub (fun _ _ => ⟨_, rfl⟩) ?_
                 walk_at "s2"
                 walk_at "s23"
                 refine ev_cint ?_
                walk_at "s7"
                with_reducible
                 refine cmp_eq_str ?_
                 refine ways_t rfl ?_
                 refine ev_cstr ?_
                 walk_at "s6"
                 refine' xs_ret ?_
                 refine ev_tuple_a ?_
                 walk_at "s3"
                 walk_at "s19"
                 refine ev_ifexp ?_
                 walk_at "s20"
                 walk_at "s14"
                 refine ev_tuple_a ?_
                 refine es_cons (fun _ => rfl) ?_
                 refine ev_neg ?_
                 refine ev_sub (fun _ _ => ⟨_, rfl⟩) ?_
                 walk_at "s2"
                 walk_at "s23"
                 refine ev_cint ?_
                 walk_at "s7"
                 refine ⟨_, rfl, ?_⟩
                 walk_at "s19"
                 refine ev_sub (fun _ _ => ⟨_, rfl⟩) ?_
                 walk_at "s2"
                 walk_at "s23"
                 refine ev_cint ?_
                 walk_at "s7"
                 walk_at "s17"
                 refine ⟨_, TupOf.d rfl, ?_⟩
                 walk_at "s17"
                 refine ⟨_, TupOf.d rfl, ?_⟩
                 walk_at "s10"
                exact k'
              | .c, hc, _ => exact absurd rfl hc
            · rw [unF_n hc] at k
              with_reducible
               walk_at "s14"
               refine' xs_ret ?_
               refine ev_tuple_a ?_
               refine' es_s ?_
               walk_at "s19"
               refine ev_ifexp ?_
               refine' ts_cmp_i rfl ?_
               refine ev_sub (fun _ _ => ⟨_, rfl⟩) ?_
               walk_at "s2"
               walk_at "s23"
               refine ev_cint ?_
               walk_at "s7"
               refine cmp_eq_int ?_
              refine ⟨fun h => ?_, fun h => ?_⟩
              · have k' : K (.d (.tuple [.str "logical", .int 1])) σ := by rw [show (1 : Int) = 1 - tr u.pn by rw [tr, if_pos (by simpa using h)]; rfl]; exact k
                with_reducible
                 refine ev_cint ?_
                 walk_at "s18"
                 refine ⟨_, TupOf.d rfl, ?_⟩
                 walk_at "s10"
                exact k'
              · have k' : K (.d (.tuple [.str "logical", .int 0])) σ := by rw [show (0 : Int) = 1 - tr u.pn by rw [tr, if_neg (by simpa using h)]; rfl]; exact k
                with_reducible
                 refine ev_cint ?_
                 walk_at "s18"
                 refine ⟨_, TupOf.d rfl, ?_⟩
                 walk_at "s10"
                exact k'
            · exact absurd hx hp
theorem fdiv_one' (x : Int) : x.fdiv 1 = x := by simp
theorem numP_w {op : Str} {a b : Int} (ho : op = "+" ∨ op = "-" ∨ op = "*" ∨ op = "%%" ∨ op = "%/%") (h0 : b = 0 → op ≠ "%%" ∧ op ≠ "%/%") : (numP op a 1 b 1).1.fdiv (numP op a 1 b 1).2 = iopF op a b := by
  have f : b ≠ 0 → flL a 1 b 1 = a.fdiv b := fun hb => by
    rw [← fl_eq (by decide) hb, fl, red_fdiv (by omega), Int.mul_one, Int.one_mul]
  rcases ho with rfl | rfl | rfl | rfl | rfl
  · rw [numP, if_neg (by decide +kernel), nuL, if_pos rfl, iopF, if_pos rfl]
    simp only [Int.mul_one, fdiv_one']
  · rw [numP, if_neg (by decide +kernel), nuL, if_neg (by decide +kernel), if_pos rfl, iopF, if_neg (by decide +kernel), if_pos rfl]
    simp only [Int.mul_one, fdiv_one']
  · rw [numP, if_neg (by decide +kernel), nuL, if_neg (by decide +kernel), if_neg (by decide +kernel), if_pos rfl, iopF, if_neg (by decide +kernel), if_neg (by decide +kernel), if_pos rfl]
    simp only [Int.mul_one, fdiv_one']
  · rw [numP, if_pos rfl, iopF, if_neg (by decide +kernel), if_neg (by decide +kernel), if_neg (by decide +kernel), if_neg (by decide +kernel), f fun z => (h0 z).1 rfl]
    simp only [Int.mul_one, fdiv_one']
    rw [Int.fmod_def, Int.mul_comm]
  · rw [numP, if_neg (by decide +kernel), nuL, if_neg (by decide +kernel), if_neg (by decide +kernel), if_neg (by decide +kernel), iopF, if_neg (by decide +kernel), if_neg (by decide +kernel), if_neg (by decide +kernel), if_pos rfl, f fun z => (h0 z).2 rfl]
    simp only [fdiv_one']
theorem binF_ar {op : Str} {u v : Lf} (ho : arN op) (hu : u ≠ .c) (hv : v ≠ .c) : binF op u v = if (isD u || isD v || op = "/" || op = "^") = true then some (.d (dop op u.pn u.pd v.pn v.pd).1 (dop op u.pn u.pd v.pn v.pd).2) else (iop op u.pn v.pn).map (.w false) := by
  have g1 : ¬ op = "&" := by rcases ho with rfl | rfl | rfl | rfl | rfl | rfl | rfl <;> decide +kernel
  have g2 : ¬ op = "|" := by rcases ho with rfl | rfl | rfl | rfl | rfl | rfl | rfl <;> decide +kernel
  have g3 : ¬ (op = "==" ∨ op = "!=" ∨ op = "<" ∨ op = ">=") := by rcases ho with rfl | rfl | rfl | rfl | rfl | rfl | rfl <;> decide +kernel
  rw [binF_nc hu hv, if_neg g1, if_neg g2, if_neg g3]
theorem ar5 {op : Str} (ho : op = "+" ∨ op = "-" ∨ op = "*" ∨ op = "%%" ∨ op = "%/%") : arN op ∧ op ≠ "/" ∧ op ≠ "^" := by
  rcases ho with rfl | rfl | rfl | rfl | rfl
  · exact ⟨.inl rfl, by decide +kernel, by decide +kernel⟩
  · exact ⟨.inr (.inl rfl), by decide +kernel, by decide +kernel⟩
  · exact ⟨.inr (.inr (.inl rfl)), by decide +kernel, by decide +kernel⟩
  · exact ⟨.inr (.inr (.inr (.inr (.inr (.inl rfl))))), by decide +kernel, by decide +kernel⟩
  · exact ⟨.inr (.inr (.inr (.inr (.inr (.inr rfl))))), by decide +kernel, by decide +kernel⟩
theorem resL_eq {op : Str} {u v : Lf} (ho : op = "+" ∨ op = "-" ∨ op = "*" ∨ op = "%%" ∨ op = "%/%") (hu : u ≠ .c) (hv : v ≠ .c) (pu : 0 < u.pd) (pv : 0 < v.pd) (co : Nat.gcd u.pn.natAbs u.pd.natAbs = 1) (hm : v.pn = 0 → op ≠ "/" ∧ op ≠ "%%" ∧ op ≠ "%/%") : resL u v (numL op u v) = binF op u v := by
  obtain ⟨ha, n1, n2⟩ := ar5 ho
  rw [binF_ar ha hu hv]
  by_cases hd : (isD u || isD v) = true
  · rw [resL, if_pos hd, if_pos (by rw [hd]; rfl), dop_eq ha pu pv co hm (fun z => absurd z n2), if_neg n1, if_neg n2]
    rfl
  · rw [if_neg (by rw [show (isD u || isD v) = false by simpa using hd]; simp [n1, n2]), resL, if_neg hd]
    match u, v, hu, hv, hd, hm with
    | .w b n, .w b' n', _, _, _, hm =>
      have e : ((numL op (.w b n) (.w b' n')).1.fdiv (numL op (.w b n) (.w b' n')).2) = iopF op n n' := numP_w ho fun z => (hm z).2
      rw [e]
      show _ = (iop op n n').map _
      unfold iop
      split <;> rfl
    | .d _ _, _, _, _, hd, _ => exact absurd rfl hd
    | .w _ _, .d _ _, _, _, hd, _ => exact absurd rfl hd
theorem c_numbers (hK : cx.K = HK P) {op : Str} {u v : Lf} (ho : arN op) (hu : u ≠ .c) (hv : v ≠ .c) (ou : u.Oc 2100) (ov : v.Oc 2100) (k : K (.d (rD (if skp op u v then none else some (binF op u v)))) σ) : CalTo cx (r + 2) KE (.fn "_law_numbers") [S op, .d (LD u), .d (LD v)] σ K := by
  have nc : ∀ {u : Lf}, u ≠ .c → isC u = false := fun {u} h => by cases u <;> first | rfl | exact absurd rfl h
  cases hs : skp op u v with
  | true =>
    rw [hs, if_pos rfl] at k
    unfold skp at hs
    rw [nc hu, nc hv, if_neg (by decide), Bool.or_eq_true] at hs
    rcases hs with h | h
    · rw [Bool.and_eq_true, Bool.or_eq_true, Bool.or_eq_true] at h
      simp only [beq_iff_eq] at h
      exact c_numbers_skip0 hK hu hv (by rcases h.1 with (z | z) | z; exact .inl z; exact .inr (.inl z); exact .inr (.inr z)) h.2 k
    · rw [Bool.and_eq_true] at h
      obtain rfl : op = "^" := by simpa using h.1
      exact c_numbers_skip1 hK hu hv h.2 k
  | false =>
    rw [hs, if_neg (by decide)] at k
    obtain ⟨-, h1, h2⟩ := skp_pre hs
    have hm := h1 hu hv
    have k1 : ∀ w, binF op u v = some w → K (.d (LD w)) σ := fun w e => by rw [e] at k; exact k
    have k0 : binF op u v = none → K N σ := fun e => by rw [e] at k; exact k
    have five : (op = "+" ∨ op = "-" ∨ op = "*" ∨ op = "%%" ∨ op = "%/%") → resL u v (numL op u v) = binF op u v := fun h => resL_eq h hu hv ou.pos ov.pos ou.co hm
    rcases ho with rfl | rfl | rfl | rfl | rfl | rfl | rfl
    · have e := five (.inl rfl)
      exact c_numbers_asm hK hu hv (.inl rfl) ou.pos ov.pos ou.n ou.d ov.n ov.d (fun w h => k1 w (e ▸ h)) fun h => k0 (e ▸ h)
    · have e := five (.inr (.inl rfl))
      exact c_numbers_asm hK hu hv (.inr (.inl rfl)) ou.pos ov.pos ou.n ou.d ov.n ov.d (fun w h => k1 w (e ▸ h)) fun h => k0 (e ▸ h)
    · have e := five (.inr (.inr (.inl rfl)))
      exact c_numbers_asm hK hu hv (.inr (.inr rfl)) ou.pos ov.pos ou.n ou.d ov.n ov.d (fun w h => k1 w (e ▸ h)) fun h => k0 (e ▸ h)
    · refine c_numbers_div hK hu hv ou.pos (fun z => (hm z).1 rfl) (ou.n.mono (by decide)) (ou.d.mono (by decide)) (ov.n.mono (by decide)) (ov.d.mono (by decide)) (k1 (.d _ _) ?_)
      rw [binF_ar (.inr (.inr (.inr (.inl rfl)))) hu hv, if_pos (by simp), dop_eq (.inr (.inr (.inr (.inl rfl)))) ou.pos ov.pos ou.co hm (fun z => absurd z (by decide +kernel)), if_pos rfl]
    · obtain ⟨q1, q2, q3, q4⟩ := h2 rfl hu hv
      refine c_numbers_pow hK hu hv ou.pos q1 q2 q3 q4 ou.n ou.d (k1 (.d _ _) ?_)
      rw [binF_ar (.inr (.inr (.inr (.inr (.inl rfl))))) hu hv, if_pos (by simp), dop_eq (.inr (.inr (.inr (.inr (.inl rfl))))) ou.pos ov.pos ou.co hm (fun _ => ⟨q1, q2, q3, q4⟩), if_neg (by decide +kernel), if_pos rfl]
    · have e := five (.inr (.inr (.inr (.inl rfl))))
      exact c_numbers_mod hK hu hv (fun z => (hm z).2.1 rfl) ou.pos ov.pos ou.n ou.d ov.n ov.d (fun w h => k1 w (e ▸ h)) fun h => k0 (e ▸ h)
    · have e := five (.inr (.inr (.inr (.inr rfl))))
      exact c_numbers_quo hK hu hv (fun z => (hm z).2.2 rfl) ou.pos ov.pos ou.n ou.d ov.n ov.d (fun w h => k1 w (e ▸ h)) fun h => k0 (e ▸ h)
noncomputable def binR (op : Str) (tag : Bool) : Option (Option Lf) → Option (Option Lf) → Option (Option Lf)
  | some ra, some rb => if tag then some none else match ra, rb with
      | some u, some v => if skp op u v then none else some (binF op u v)
      | _, _ => some none
  | _, _ => none
theorem reck_binR {op : Str} {a b : Tr} {tag : Bool} : reck (.bin op a b tag) = binR op tag (reck a) (reck b) := by
  rw [reck]
  cases reck a with
  | none => rfl
  | some ra => cases reck b with
    | none => rfl
    | some rb => cases ra <;> cases rb <;> rfl
theorem eqv_rD_skip : ∀ r : Option (Option Lf), PyData.eqv (rD r) SKIP = r.isNone
  | none => by decide +kernel
  | some none => by decide +kernel
  | some (some u) => skip_in u
noncomputable def isNN : Option (Option Lf) → Bool | some none => true | _ => false
theorem eqv_rD_none : ∀ r : Option (Option Lf), PyData.eqv (rD r) .none = isNN r
  | none => by decide +kernel
  | some none => by decide +kernel
  | some (some u) => by simp [rD, LD, PyData.eqv, isNN]
theorem eqv_str {a b : Str} : PyData.eqv (.str a) (.str b) = (b == a) := by simp [PyData.eqv, BEq.comm]
theorem skp_off {op : Str} {u v : Lf} (hC : (isC u || isC v) = false) (h1 : (op == "/" || op == "%%" || op == "%/%") = false) (h2 : (op == "^") = false) : skp op u v = false := by
  rw [skp, if_neg (by rw [hC]; decide), h1, h2]; rfl
theorem dget4_eq {a b c d : AV} : dget ["==", "<", ">=", "!="] [a, b, c, d] "==" = some a := by rw [dget, if_pos rfl]
theorem dget4_lt {a b c d : AV} : dget ["==", "<", ">=", "!="] [a, b, c, d] "<" = some b := by rw [dget, if_neg (by decide +kernel), dget, if_pos rfl]
theorem dget4_ge {a b c d : AV} : dget ["==", "<", ">=", "!="] [a, b, c, d] ">=" = some c := by rw [dget, if_neg (by decide +kernel), dget, if_neg (by decide +kernel), dget, if_pos rfl]
theorem dget4_ne {a b c d : AV} : dget ["==", "<", ">=", "!="] [a, b, c, d] "!=" = some d := by rw [dget, if_neg (by decide +kernel), dget, if_neg (by decide +kernel), dget, if_neg (by decide +kernel), dget, if_pos rfl]
theorem hold_far_eq {x y : Int} : hold "==" (cmpI x y) = if (x - y == 0) then 1 else 0 := by
  have : (cmpI x y == 0) = (x - y == 0) := by rw [Bool.eq_iff_iff]; simp only [beq_iff_eq]; unfold cmpI; split <;> first | omega | (split <;> omega)
  rw [hold, show holdB "==" (cmpI x y) = (cmpI x y == 0) by rw [holdB, if_pos rfl], this]
theorem hold_far_ne {x y : Int} : hold "!=" (cmpI x y) = if (x - y != 0) then 1 else 0 := by
  have : (cmpI x y != 0) = (x - y != 0) := by rw [Bool.eq_iff_iff]; simp only [bne_iff_ne]; unfold cmpI; split <;> first | omega | (split <;> omega)
  rw [hold, show holdB "!=" (cmpI x y) = (cmpI x y != 0) by rw [holdB, if_neg (by decide +kernel), if_pos rfl], this]
theorem hold_far_lt {x y : Int} : hold "<" (cmpI x y) = if decide (x - y < 0) then 1 else 0 := by
  have : decide (cmpI x y < 0) = decide (x - y < 0) := by rw [Bool.eq_iff_iff]; simp only [decide_eq_true_eq]; unfold cmpI; split <;> first | omega | (split <;> omega)
  rw [hold, show holdB "<" (cmpI x y) = decide (cmpI x y < 0) by rw [holdB, if_neg (by decide +kernel), if_neg (by decide +kernel), if_pos rfl], this]
theorem hold_far_ge {x y : Int} : hold ">=" (cmpI x y) = if decide (0 ≤ x - y) then 1 else 0 := by
  have : decide (0 ≤ cmpI x y) = decide (0 ≤ x - y) := by rw [Bool.eq_iff_iff]; simp only [decide_eq_true_eq]; unfold cmpI; split <;> first | omega | (split <;> omega)
  rw [hold, show holdB ">=" (cmpI x y) = decide (0 ≤ cmpI x y) by rw [holdB, if_neg (by decide +kernel), if_neg (by decide +kernel), if_neg (by decide +kernel)], this]
theorem rec_bin (hK : cx.K = HK P) {op : Str} {a b : Tr} {tag : Bool} (iha : RecOK cx a) (ihb : RecOK cx b) : RecOK cx (.bin op a b tag) := by
  intro r hr h4 σ K KE wf k
  have hm : max a.ht b.ht + 1 ≤ r := hr
  have hm4 : max a.ht b.ht + 1 ≤ 4 := h4
  have hta : a.ht ≤ max a.ht b.ht := Nat.le_max_left _ _
  have htb : b.ht ≤ max a.ht b.ht := Nat.le_max_right _ _
  obtain ⟨r, rfl⟩ := ex_pred hm
  have lo := wf_lay_bin wf.1
  show CalTo cx _ _ (.fn "_law_reckoned") [.d (.tuple [.str "call", .str op, .list [TD a, TD b], .bool tag])] _ _
  rw [reck_binR] at k
  have oka : ∀ u, reck a = some (some u) → u.Oc 2100 := fun u e => (reck_ok wf.2.1 e).mono (Nat.le_trans (bd_mono hta) (bd_le (h := max a.ht b.ht) (by omega)))
  have okb : ∀ u, reck b = some (some u) → u.Oc 2100 := fun u e => (reck_ok wf.2.2 e).mono (Nat.le_trans (bd_mono htb) (bd_le (h := max a.ht b.ht) (by omega)))
  refine go1 "tree" [("sides", .undef), ("name", .undef), ("pairs", .undef), ("kind", .undef), ("signs", .undef), ("far", .undef)] [("len", .cv (.builtin "len")), ("_law_numbers", .fn "_law_numbers")] rfl hK (fo_law_reckoned _) (by decide +kernel) (GS.cons (gvb_len hK) (GS.cons (gv_law_numbers hK) GS.nil)) ?_
  conv => arg 6; whnf
  with_reducible
   refine' xs_if0 ?_
   refine' ts_cmp_s rfl ?_
   walk_at "s2"
   walk_at "s7"
   refine cmp_eq_str ?_
   walk_at "s9"
   refine' xs_if0 ?_
   refine' ts_cmp_s rfl ?_
   walk_at "s2"
   walk_at "s7"
   refine cmp_ne_str ?_
   walk_at "s9"
   refine xs_cons ?_
  refine' ex_comp_d (cap := []) (gl' := [("_law_reckoned", .fn "_law_reckoned")]) rfl (fun _ _ => rfl) ?hok (Caps.nil) (GS.cons (gv_law_reckoned hK) GS.nil) ?hy ?hl ?hnl ?_
  case hok => kernel_rfl
  case hy => rfl
  case hl => rfl
  case hnl => decide +kernel
  with_reducible
   refine ie_seq ?_
   walk_at "s2"
   walk_at "s7"
   refine ⟨_, _, .dl rfl, .inr rfl, ?_⟩
   walk_at "s17"
  refine cp_cons ?_
  with_reducible
   walk_at "s0"
   walk_at "s1"
  refine iha r (by omega) (by omega) _ _ _ wf.2.1 ?_
  refine cp_cons ?_
  with_reducible
   walk_at "s0"
   walk_at "s1"
  refine ihb r (by omega) (by omega) _ _ _ wf.2.2 ?_
  generalize reck a = ra at k oka ⊢
  generalize reck b = rb at k okb ⊢
  have hl : PyData.canLayAll0 [rD ra, rD rb] = true := by simp [PyData.canLayAll0, lay_rD]
  have hd : PyData.depthAll [rD ra, rD rb] ≤ 8 := by have := dep_rD ra; have := dep_rD rb; simp only [PyData.depthAll]; omega
  have l2 : PyData.canLay0 (.tuple [.str "skip"]) = true := by decide +kernel
  have j1 : ([rD ra, rD rb].any fun y => PyData.eqv y (.tuple [.str "skip"])) = (ra.isNone || rb.isNone) := by
    show (PyData.eqv (rD ra) SKIP || (PyData.eqv (rD rb) SKIP || false)) = _
    rw [eqv_rD_skip, eqv_rD_skip, Bool.or_false]
  have j2 : ([rD ra, rD rb].any fun y => PyData.eqv y .none) = (isNN ra || isNN rb) := by
    show (PyData.eqv (rD ra) .none || (PyData.eqv (rD rb) .none || false)) = _
    rw [eqv_rD_none, eqv_rD_none, Bool.or_false]
  match ra, rb, k, oka, okb, hl, hd, j1, j2 with
  | none, _, k, _, _, hl, hd, j1, j2 =>
    refine cp_nil ?_
    with_reducible
     refine ⟨_, rfl, ?_⟩
     walk_at "s6"
     refine' xs_if0 ?_
     refine ts_cmp rfl ?_
     refine ev_tuple_a ?_
     refine' es_s1 ?_
     walk_at "s18"
     refine ⟨_, TupOf.d rfl, ?_⟩
     walk_at "s5"
     walk_at "s4"
     refine ways_t rfl ?_
     refine' xs_ret ?_
     refine ev_tuple_a ?_
     refine' es_s1 ?_
     walk_at "s18"
     refine ⟨_, TupOf.d rfl, ?_⟩
     walk_at "s10"
    exact k
  | some ra, none, k, _, _, hl, hd, j1, j2 =>
    have k' : K (.d SKIP) σ := k
    have j1 : _ = true := j1
    refine cp_nil ?_
    with_reducible
     refine ⟨_, rfl, ?_⟩
     walk_at "s6"
     refine' xs_if0 ?_
     refine ts_cmp rfl ?_
     refine ev_tuple_a ?_
     refine' es_s1 ?_
     walk_at "s18"
     refine ⟨_, TupOf.d rfl, ?_⟩
     walk_at "s5"
     walk_at "s4"
     refine ways_t (by with_reducible assumption) ?_
     refine' xs_ret ?_
     refine ev_tuple_a ?_
     refine' es_s1 ?_
     walk_at "s18"
     refine ⟨_, TupOf.d rfl, ?_⟩
     walk_at "s10"
    exact k'
  | some ra, some rb, k, oka, okb, hl, hd, j1, j2 =>
    have j1 : _ = false := j1
    have nf : (op == ("f" : Str)) = false := by
      rcases wf.1 with z | z | z
      · rcases z with rfl | rfl | rfl | rfl | rfl | rfl | rfl <;> decide +kernel
      · rcases z with rfl | rfl | rfl | rfl <;> decide +kernel
      · rcases z with rfl | rfl <;> decide +kernel
    cases tag with
    | true =>
      have k' : K N σ := k
      refine cp_nil ?_
      with_reducible
       refine ⟨_, rfl, ?_⟩
       walk_at "s6"
       refine' xs_if0 ?_
       refine ts_cmp rfl ?_
       refine ev_tuple_a ?_
       refine' es_s1 ?_
       walk_at "s18"
       refine ⟨_, TupOf.d rfl, ?_⟩
       walk_at "s5"
       walk_at "s4"
       walk_at "s24"
       refine' xs_if0 ?_
       refine ts_bool ?_
       refine bs_or ?_
       refine ts_value (fun _ _ => rfl) ?_
       walk_at "s2"
       walk_at "s7"
       refine tru_bool ?_
       walk_at "s14"
       walk_at "s14"
       refine' xs_ret_n ?_
       walk_at "s10"
      exact k'
    | false =>
      match ra, rb, k, oka, okb, hl, hd, j1, j2 with
      | none, rb, k, _, _, hl, hd, j1, j2 =>
        have k' : K N σ := k
        have j2 : _ = true := j2
        refine cp_nil ?_
        with_reducible
         refine ⟨_, rfl, ?_⟩
         walk_at "s6"
         refine' xs_if0 ?_
         refine ts_cmp rfl ?_
         refine ev_tuple_a ?_
         refine' es_s1 ?_
         walk_at "s18"
         refine ⟨_, TupOf.d rfl, ?_⟩
         walk_at "s5"
         walk_at "s4"
         walk_at "s24"
         refine' xs_if0 ?_
         refine ts_bool ?_
         refine bs_or ?_
         refine ts_value (fun _ _ => rfl) ?_
         walk_at "s2"
         walk_at "s7"
         refine tru_bool ?_
         walk_at "s9"
         refine bs_or ?_
         refine' ts_cmp_s rfl ?_
         walk_at "s2"
         walk_at "s7"
         refine cmp_eq_str ?_
         walk_at "s24"
         refine bs_or ?_
         refine ts_cmp rfl ?_
         refine ev_cnone ?_
         walk_at "s5"
         walk_at "s4"
         refine ways_t (by with_reducible assumption) ?_
         walk_at "s14"
         refine' xs_ret_n ?_
         walk_at "s10"
        exact k'
      | some u, none, k, _, _, hl, hd, j1, j2 =>
        have k' : K N σ := k
        have j2 : _ = true := j2
        refine cp_nil ?_
        with_reducible
         refine ⟨_, rfl, ?_⟩
         walk_at "s6"
         refine' xs_if0 ?_
         refine ts_cmp rfl ?_
         refine ev_tuple_a ?_
         refine' es_s1 ?_
         walk_at "s18"
         refine ⟨_, TupOf.d rfl, ?_⟩
         walk_at "s5"
         walk_at "s4"
         walk_at "s24"
         refine' xs_if0 ?_
         refine ts_bool ?_
         refine bs_or ?_
         refine ts_value (fun _ _ => rfl) ?_
         walk_at "s2"
         walk_at "s7"
         refine tru_bool ?_
         walk_at "s9"
         refine bs_or ?_
         refine' ts_cmp_s rfl ?_
         walk_at "s2"
         walk_at "s7"
         refine cmp_eq_str ?_
         walk_at "s24"
         refine bs_or ?_
         refine ts_cmp rfl ?_
         refine ev_cnone ?_
         walk_at "s5"
         walk_at "s4"
         refine ways_t (by with_reducible assumption) ?_
         walk_at "s14"
         refine' xs_ret_n ?_
         walk_at "s10"
        exact k'
      | some u, some v, k, oka, okb, hl, hd, j1, j2 =>
        have j2 : _ = false := j2
        have np : (op == ("(" : Str)) = false := by
          rcases wf.1 with z | z | z
          · rcases z with rfl | rfl | rfl | rfl | rfl | rfl | rfl <;> decide +kernel
          · rcases z with rfl | rfl | rfl | rfl <;> decide +kernel
          · rcases z with rfl | rfl <;> decide +kernel
        have lk : PyData.canLayAll0 [.str u.kd, .str v.kd] = true := by simp [PyData.canLayAll0, u.kn.facts.lay, v.kn.facts.lay]
        have k : K (.d (rD (if skp op u v then none else some (binF op u v)))) σ := k
        have cin : ([PyData.str "==", .str "<", .str ">=", .str "!="].any fun y => PyData.eqv y (.str op)) = (op == "==" || op == "<" || op == ">=" || op == "!=") := by
          show (PyData.eqv (.str "==") (.str op) || (PyData.eqv (.str "<") (.str op) || (PyData.eqv (.str ">=") (.str op) || (PyData.eqv (.str "!=") (.str op) || false)))) = _
          rw [eqv_str, eqv_str, eqv_str, eqv_str, Bool.or_false, Bool.or_assoc, Bool.or_assoc]
        refine cp_nil ?_
        with_reducible
         refine ⟨_, rfl, ?_⟩
         walk_at "s6"
         refine' xs_if0 ?_
         refine ts_cmp rfl ?_
         refine ev_tuple_a ?_
         refine' es_s1 ?_
         walk_at "s18"
         refine ⟨_, TupOf.d rfl, ?_⟩
         walk_at "s5"
         walk_at "s4"
         walk_at "s24"
         refine' xs_if0 ?_
         refine ts_bool ?_
         refine bs_or ?_
         refine ts_value (fun _ _ => rfl) ?_
         walk_at "s2"
         walk_at "s7"
         refine tru_bool ?_
         walk_at "s9"
         refine bs_or ?_
         refine' ts_cmp_s rfl ?_
         walk_at "s2"
         walk_at "s7"
         refine cmp_eq_str ?_
         walk_at "s24"
         refine bs_or ?_
         refine ts_cmp rfl ?_
         refine ev_cnone ?_
         walk_at "s5"
         walk_at "s4"
         walk_at "s24"
         refine bs_or_nil ?_
         walk_at "s9"
         walk_at "s16"
         walk_at "s2"
         walk_at "s7"
         walk_at "s6"
         refine' xs_if0 ?_
         walk_at "s20"
         walk_at "s24"
         refine' xs_if0 ?_
         refine ts_cmp rfl ?_
         refine ev_cstr ?_
        refine' ev_comp_d (cap := []) (gl' := []) rfl (fun _ _ => rfl) ?hok (Caps.nil) (GS.nil) ?_
        case hok => kernel_rfl
        with_reducible
         refine ie_seq ?_
         walk_at "s5"
         refine ⟨_, _, .dl rfl, .inr rfl, ?_⟩
         walk_at "s17"
        refine cp_cons ?_
        with_reducible
         walk_at "s2"
        walk_at "s7"
        refine cp_cons ?_
        with_reducible
         walk_at "s2"
        walk_at "s7"
        refine cp_nil ?_
        with_reducible
         refine ⟨_, rfl, ?_⟩
         walk_at "s4"
        by_cases hc : u = .c ∨ v = .c
        · have i3 : ([PyData.str u.kd, .str v.kd].any fun y => PyData.eqv y (.str "character")) = true := by
            rcases hc with z | z <;> · rw [kd_c z]; simp [PyData.eqv]
          have hs : skp op u v = (op == "==" || op == "<" || op == ">=" || op == "!=") := by
            unfold skp
            rw [if_pos (by rcases hc with z | z <;> · subst z; simp [isC])]
          rw [hs, binF_c hc] at k
          with_reducible
           refine ways_t (by with_reducible assumption) ?_
           refine' xs_ret ?_
           refine ev_ifexp ?_
           walk_at "s13"
           refine ev_list_a ?_
           refine' es_s ?_
           refine' es_s ?_
           refine' es_s ?_
           refine' es_s1 ?_
           walk_at "s18"
           refine ⟨_, LstOf.d rfl, ?_⟩
           walk_at "s4"
          refine ⟨fun h => ?_, fun h => ?_⟩
          · rw [if_pos (cin.symm.trans h)] at k
            with_reducible
             refine ev_tuple_a ?_
             refine' es_s1 ?_
             walk_at "s18"
             refine ⟨_, TupOf.d rfl, ?_⟩
             walk_at "s10"
            exact k
          · rw [show (op == "==" || op == "<" || op == ">=" || op == "!=") = false from cin.symm.trans h] at k
            with_reducible
             refine ev_cnone ?_
             walk_at "s10"
            exact k
        · have hu : u ≠ .c := fun z => hc (.inl z)
          have hv : v ≠ .c := fun z => hc (.inr z)
          have i3 : ([PyData.str u.kd, .str v.kd].any fun y => PyData.eqv y (.str "character")) = false := by
            have h1 := Lf.nc hu; have h2 := Lf.nc hv
            simp [PyData.eqv, h1, h2]
          with_reducible
           walk_at "s24"
           refine xs_cons ?_
          refine' ex_comp_d (cap := []) (gl' := [("_law_pair", .fn "_law_pair")]) rfl (fun _ _ => rfl) ?hok (Caps.nil) (GS.cons (gv_law_pair hK) GS.nil) ?hy ?hl ?hnl ?_
          case hok => kernel_rfl
          case hy => rfl
          case hl => rfl
          case hnl => decide +kernel
          with_reducible
           refine ie_seq ?_
           walk_at "s5"
           refine ⟨_, _, .dl rfl, .inr rfl, ?_⟩
           walk_at "s17"
          refine cp_cons ?_
          with_reducible
           walk_at "s0"
           walk_at "s1"
          apply c_law_pair; iterate 2 walk_at "side"
          refine cp_cons ?_
          with_reducible
           walk_at "s0"
           walk_at "s1"
          apply c_law_pair; iterate 2 walk_at "side"
          refine cp_nil ?_
          with_reducible
           refine ⟨_, rfl, ?_⟩
           walk_at "s6"
           refine' xs_if0 ?_
           refine' ts_cmp_i rfl ?_
           walk_at "s0"
           walk_at "s1"
           refine bl_len (.dl rfl) (.inr rfl) (by exact Nat.le_of_ble_eq_true rfl) ?_
           refine cmp_eq_int ?_
           refine ways_f rfl ?_
           refine' xs_if0 ?_
           walk_at "s13"
           refine ev_list_a ?_
           refine' es_s ?_
           refine' es_s1 ?_
           walk_at "s18"
           refine ⟨_, LstOf.d rfl, ?_⟩
           walk_at "s4"
          have hC : (isC u || isC v) = false := by cases u <;> cases v <;> first | rfl | exact absurd rfl hu | exact absurd rfl hv
          rcases wf.1 with ha | hcm | hlg
          · have i4 : ([PyData.str "&", .str "|"].any fun y => PyData.eqv y (.str op)) = false := by rcases ha with rfl | rfl | rfl | rfl | rfl | rfl | rfl <;> decide +kernel
            have i5 : ([PyData.str "==", .str "<", .str ">=", .str "!="].any fun y => PyData.eqv y (.str op)) = false := by rcases ha with rfl | rfl | rfl | rfl | rfl | rfl | rfl <;> decide +kernel
            with_reducible
             walk_at "s24"
             refine' xs_if0 ?_
             walk_at "s13"
             refine ev_list_a ?_
             refine' es_s ?_
             refine' es_s ?_
             refine' es_s ?_
             refine' es_s1 ?_
             walk_at "s18"
             refine ⟨_, LstOf.d rfl, ?_⟩
             walk_at "s4"
             walk_at "s24"
             refine' xs_ret ?_
             walk_at "s0"
             walk_at "s3"
             refine es_cons (fun _ => rfl) ?_
             walk_at "s2"
             walk_at "s23"
             walk_at "s19"
             walk_at "s2"
             walk_at "s23"
            exact cal_pass (c_numbers hK ha hu hv (oka u rfl) (okb v rfl) k)
          · have hs : skp op u v = false := by rcases hcm with rfl | rfl | rfl | rfl <;> exact skp_off hC (by decide +kernel) (by decide +kernel)
            have g1 : ¬ op = "&" := by rcases hcm with rfl | rfl | rfl | rfl <;> decide +kernel
            have g2 : ¬ op = "|" := by rcases hcm with rfl | rfl | rfl | rfl <;> decide +kernel
            rw [hs, binF_nc hu hv, if_neg (by decide), if_neg g1, if_neg g2, if_pos (show op = "==" ∨ op = "!=" ∨ op = "<" ∨ op = ">=" from hcm)] at k
            have o1 : IntMulOk u.pn v.pd := (oka u rfl).n.ok (okb v rfl).d
            have o2 : IntMulOk v.pn u.pd := (okb v rfl).n.ok (oka u rfl).d
            rcases hcm with rfl | rfl | rfl | rfl
            · rw [hold_far_eq] at k
              with_reducible
               walk_at "s9"
               refine' xs_if0 ?_
               walk_at "s13"
               refine ev_list_a ?_
               refine' es_s ?_
               refine' es_s ?_
               refine' es_s ?_
               refine' es_s1 ?_
               walk_at "s18"
               refine ⟨_, LstOf.d rfl, ?_⟩
               walk_at "s4"
               walk_at "s14"
               walk_at "s16"
               refine ev_bin ?_
               refine ev_bin ?_
               refine ev_sub (fun _ _ => ⟨_, rfl⟩) ?_
               walk_at "s2"
               walk_at "s23"
               refine ev_cint ?_
               walk_at "s7"
               refine ev_sub (fun _ _ => ⟨_, rfl⟩) ?_
               walk_at "s2"
               walk_at "s23"
               refine ev_cint ?_
               walk_at "s7"
               walk_at "s21"
               refine ev_bin ?_
               refine ev_sub (fun _ _ => ⟨_, rfl⟩) ?_
               walk_at "s2"
               walk_at "s23"
               refine ev_cint ?_
               walk_at "s7"
               refine ev_sub (fun _ _ => ⟨_, rfl⟩) ?_
               walk_at "s2"
               walk_at "s23"
               refine ev_cint ?_
               walk_at "s7"
               walk_at "s21"
               refine bin_sub ?_
               walk_at "s6"
               refine' xs_ret ?_
               refine ev_tuple_a ?_
               refine' es_s ?_
               walk_at "s19"
               refine ev_ifexp ?_
               refine ts_value (fun _ _ => rfl) ?_
               refine ev_sub (fun _ _ => ⟨_, rfl⟩) ?_
               refine ev_dict rfl (fun _ => (by simp [pairsOf])) (fun _ => (by simp [pairsOf])) ?_
               refine ds_cons ?_
               refine pu_cmp rfl (.inl rfl) ?_
               walk_at "s12"
               refine pu_int ?_
               refine ⟨_, _, rfl, rfl, ?_⟩
               refine ds_cons ?_
               refine pu_cmp rfl (.inr (.inr (.inl rfl))) ?_
               walk_at "s12"
               refine pu_int ?_
               refine ⟨_, _, rfl, rfl, ?_⟩
               refine ds_cons ?_
               refine pu_cmp rfl (.inr (.inr (.inr rfl))) ?_
               walk_at "s12"
               refine pu_int ?_
               refine ⟨_, _, rfl, rfl, ?_⟩
               refine ds_cons ?_
               refine pu_cmp rfl (.inr (.inl rfl)) ?_
               walk_at "s12"
               refine pu_int ?_
               refine ⟨_, _, rfl, rfl, ?_⟩
               refine ds_nil ?_
               walk_at "s18"
               walk_at "s5"
              refine item_dct dget4_eq ?_
              with_reducible
               refine tru_bool ?_
              refine ⟨fun p => ?_, fun p => ?_⟩
              · have k' : K (.d (.tuple [.str "logical", .int 1])) σ := by rw [show ((u.pn * v.pd - v.pn * u.pd) == 0) = true from p] at k; exact k
                with_reducible
                 refine ev_cint ?_
                 walk_at "s18"
                 refine ⟨_, TupOf.d rfl, ?_⟩
                 walk_at "s10"
                exact k'
              · have k' : K (.d (.tuple [.str "logical", .int 0])) σ := by rw [show ((u.pn * v.pd - v.pn * u.pd) == 0) = false from p] at k; exact k
                with_reducible
                 refine ev_cint ?_
                 walk_at "s18"
                 refine ⟨_, TupOf.d rfl, ?_⟩
                 walk_at "s10"
                exact k'
            · rw [hold_far_ne] at k
              with_reducible
               walk_at "s9"
               refine' xs_if0 ?_
               walk_at "s13"
               refine ev_list_a ?_
               refine' es_s ?_
               refine' es_s ?_
               refine' es_s ?_
               refine' es_s1 ?_
               walk_at "s18"
               refine ⟨_, LstOf.d rfl, ?_⟩
               walk_at "s4"
               walk_at "s14"
               walk_at "s16"
               refine ev_bin ?_
               refine ev_bin ?_
               refine ev_sub (fun _ _ => ⟨_, rfl⟩) ?_
               walk_at "s2"
               walk_at "s23"
               refine ev_cint ?_
               walk_at "s7"
               refine ev_sub (fun _ _ => ⟨_, rfl⟩) ?_
               walk_at "s2"
               walk_at "s23"
               refine ev_cint ?_
               walk_at "s7"
               walk_at "s21"
               refine ev_bin ?_
               refine ev_sub (fun _ _ => ⟨_, rfl⟩) ?_
               walk_at "s2"
               walk_at "s23"
               refine ev_cint ?_
               walk_at "s7"
               refine ev_sub (fun _ _ => ⟨_, rfl⟩) ?_
               walk_at "s2"
               walk_at "s23"
               refine ev_cint ?_
               walk_at "s7"
               walk_at "s21"
               refine bin_sub ?_
               walk_at "s6"
               refine' xs_ret ?_
               refine ev_tuple_a ?_
               refine' es_s ?_
               walk_at "s19"
               refine ev_ifexp ?_
               refine ts_value (fun _ _ => rfl) ?_
               refine ev_sub (fun _ _ => ⟨_, rfl⟩) ?_
               refine ev_dict rfl (fun _ => (by simp [pairsOf])) (fun _ => (by simp [pairsOf])) ?_
               refine ds_cons ?_
               refine pu_cmp rfl (.inl rfl) ?_
               walk_at "s12"
               refine pu_int ?_
               refine ⟨_, _, rfl, rfl, ?_⟩
               refine ds_cons ?_
               refine pu_cmp rfl (.inr (.inr (.inl rfl))) ?_
               walk_at "s12"
               refine pu_int ?_
               refine ⟨_, _, rfl, rfl, ?_⟩
               refine ds_cons ?_
               refine pu_cmp rfl (.inr (.inr (.inr rfl))) ?_
               walk_at "s12"
               refine pu_int ?_
               refine ⟨_, _, rfl, rfl, ?_⟩
               refine ds_cons ?_
               refine pu_cmp rfl (.inr (.inl rfl)) ?_
               walk_at "s12"
               refine pu_int ?_
               refine ⟨_, _, rfl, rfl, ?_⟩
               refine ds_nil ?_
               walk_at "s18"
               walk_at "s5"
              refine item_dct dget4_ne ?_
              with_reducible
               refine tru_bool ?_
              refine ⟨fun p => ?_, fun p => ?_⟩
              · have k' : K (.d (.tuple [.str "logical", .int 1])) σ := by rw [show ((u.pn * v.pd - v.pn * u.pd) != 0) = true from p] at k; exact k
                with_reducible
                 refine ev_cint ?_
                 walk_at "s18"
                 refine ⟨_, TupOf.d rfl, ?_⟩
                 walk_at "s10"
                exact k'
              · have k' : K (.d (.tuple [.str "logical", .int 0])) σ := by rw [show ((u.pn * v.pd - v.pn * u.pd) != 0) = false from p] at k; exact k
                with_reducible
                 refine ev_cint ?_
                 walk_at "s18"
                 refine ⟨_, TupOf.d rfl, ?_⟩
                 walk_at "s10"
                exact k'
            · rw [hold_far_lt] at k
              with_reducible
               walk_at "s9"
               refine' xs_if0 ?_
               walk_at "s13"
               refine ev_list_a ?_
               refine' es_s ?_
               refine' es_s ?_
               refine' es_s ?_
               refine' es_s1 ?_
               walk_at "s18"
               refine ⟨_, LstOf.d rfl, ?_⟩
               walk_at "s4"
               walk_at "s14"
               walk_at "s16"
               refine ev_bin ?_
               refine ev_bin ?_
               refine ev_sub (fun _ _ => ⟨_, rfl⟩) ?_
               walk_at "s2"
               walk_at "s23"
               refine ev_cint ?_
               walk_at "s7"
               refine ev_sub (fun _ _ => ⟨_, rfl⟩) ?_
               walk_at "s2"
               walk_at "s23"
               refine ev_cint ?_
               walk_at "s7"
               walk_at "s21"
               refine ev_bin ?_
               refine ev_sub (fun _ _ => ⟨_, rfl⟩) ?_
               walk_at "s2"
               walk_at "s23"
               refine ev_cint ?_
               walk_at "s7"
               refine ev_sub (fun _ _ => ⟨_, rfl⟩) ?_
               walk_at "s2"
               walk_at "s23"
               refine ev_cint ?_
               walk_at "s7"
               walk_at "s21"
               refine bin_sub ?_
               walk_at "s6"
               refine' xs_ret ?_
               refine ev_tuple_a ?_
               refine' es_s ?_
               walk_at "s19"
               refine ev_ifexp ?_
               refine ts_value (fun _ _ => rfl) ?_
               refine ev_sub (fun _ _ => ⟨_, rfl⟩) ?_
               refine ev_dict rfl (fun _ => (by simp [pairsOf])) (fun _ => (by simp [pairsOf])) ?_
               refine ds_cons ?_
               refine pu_cmp rfl (.inl rfl) ?_
               walk_at "s12"
               refine pu_int ?_
               refine ⟨_, _, rfl, rfl, ?_⟩
               refine ds_cons ?_
               refine pu_cmp rfl (.inr (.inr (.inl rfl))) ?_
               walk_at "s12"
               refine pu_int ?_
               refine ⟨_, _, rfl, rfl, ?_⟩
               refine ds_cons ?_
               refine pu_cmp rfl (.inr (.inr (.inr rfl))) ?_
               walk_at "s12"
               refine pu_int ?_
               refine ⟨_, _, rfl, rfl, ?_⟩
               refine ds_cons ?_
               refine pu_cmp rfl (.inr (.inl rfl)) ?_
               walk_at "s12"
               refine pu_int ?_
               refine ⟨_, _, rfl, rfl, ?_⟩
               refine ds_nil ?_
               walk_at "s18"
               walk_at "s5"
              refine item_dct dget4_lt ?_
              with_reducible
               refine tru_bool ?_
              refine ⟨fun p => ?_, fun p => ?_⟩
              · have k' : K (.d (.tuple [.str "logical", .int 1])) σ := by rw [show (decide ((u.pn * v.pd - v.pn * u.pd) < 0)) = true from p] at k; exact k
                with_reducible
                 refine ev_cint ?_
                 walk_at "s18"
                 refine ⟨_, TupOf.d rfl, ?_⟩
                 walk_at "s10"
                exact k'
              · have k' : K (.d (.tuple [.str "logical", .int 0])) σ := by rw [show (decide ((u.pn * v.pd - v.pn * u.pd) < 0)) = false from p] at k; exact k
                with_reducible
                 refine ev_cint ?_
                 walk_at "s18"
                 refine ⟨_, TupOf.d rfl, ?_⟩
                 walk_at "s10"
                exact k'
            · rw [hold_far_ge] at k
              with_reducible
               walk_at "s9"
               refine' xs_if0 ?_
               walk_at "s13"
               refine ev_list_a ?_
               refine' es_s ?_
               refine' es_s ?_
               refine' es_s ?_
               refine' es_s1 ?_
               walk_at "s18"
               refine ⟨_, LstOf.d rfl, ?_⟩
               walk_at "s4"
               walk_at "s14"
               walk_at "s16"
               refine ev_bin ?_
               refine ev_bin ?_
               refine ev_sub (fun _ _ => ⟨_, rfl⟩) ?_
               walk_at "s2"
               walk_at "s23"
               refine ev_cint ?_
               walk_at "s7"
               refine ev_sub (fun _ _ => ⟨_, rfl⟩) ?_
               walk_at "s2"
               walk_at "s23"
               refine ev_cint ?_
               walk_at "s7"
               walk_at "s21"
               refine ev_bin ?_
               refine ev_sub (fun _ _ => ⟨_, rfl⟩) ?_
               walk_at "s2"
               walk_at "s23"
               refine ev_cint ?_
               walk_at "s7"
               refine ev_sub (fun _ _ => ⟨_, rfl⟩) ?_
               walk_at "s2"
               walk_at "s23"
               refine ev_cint ?_
               walk_at "s7"
               walk_at "s21"
               refine bin_sub ?_
               walk_at "s6"
               refine' xs_ret ?_
               refine ev_tuple_a ?_
               refine' es_s ?_
               walk_at "s19"
               refine ev_ifexp ?_
               refine ts_value (fun _ _ => rfl) ?_
               refine ev_sub (fun _ _ => ⟨_, rfl⟩) ?_
               refine ev_dict rfl (fun _ => (by simp [pairsOf])) (fun _ => (by simp [pairsOf])) ?_
               refine ds_cons ?_
               refine pu_cmp rfl (.inl rfl) ?_
               walk_at "s12"
               refine pu_int ?_
               refine ⟨_, _, rfl, rfl, ?_⟩
               refine ds_cons ?_
               refine pu_cmp rfl (.inr (.inr (.inl rfl))) ?_
               walk_at "s12"
               refine pu_int ?_
               refine ⟨_, _, rfl, rfl, ?_⟩
               refine ds_cons ?_
               refine pu_cmp rfl (.inr (.inr (.inr rfl))) ?_
               walk_at "s12"
               refine pu_int ?_
               refine ⟨_, _, rfl, rfl, ?_⟩
               refine ds_cons ?_
               refine pu_cmp rfl (.inr (.inl rfl)) ?_
               walk_at "s12"
               refine pu_int ?_
               refine ⟨_, _, rfl, rfl, ?_⟩
               refine ds_nil ?_
               walk_at "s18"
               walk_at "s5"
              refine item_dct dget4_ge ?_
              with_reducible
               refine tru_bool ?_
              refine ⟨fun p => ?_, fun p => ?_⟩
              · have k' : K (.d (.tuple [.str "logical", .int 1])) σ := by rw [show (decide (0 ≤ (u.pn * v.pd - v.pn * u.pd))) = true from p] at k; exact k
                with_reducible
                 refine ev_cint ?_
                 walk_at "s18"
                 refine ⟨_, TupOf.d rfl, ?_⟩
                 walk_at "s10"
                exact k'
              · have k' : K (.d (.tuple [.str "logical", .int 0])) σ := by rw [show (decide (0 ≤ (u.pn * v.pd - v.pn * u.pd))) = false from p] at k; exact k
                with_reducible
                 refine ev_cint ?_
                 walk_at "s18"
                 refine ⟨_, TupOf.d rfl, ?_⟩
                 walk_at "s10"
                exact k'
          · have hs : skp op u v = false := by
              rcases hlg with rfl | rfl
              · exact skp_off hC (by decide +kernel) (by decide +kernel)
              · exact skp_off hC (by decide +kernel) (by decide +kernel)
            rw [hs, binF_nc hu hv] at k
            rcases hlg with rfl | rfl
            · with_reducible
               walk_at "s14"
               refine xs_cons ?_
              refine' ex_comp_d (cap := []) (gl' := []) rfl (fun _ _ => rfl) ?hok (Caps.nil) (GS.nil) ?hy ?hl ?hnl ?_
              case hok => kernel_rfl
              case hy => rfl
              case hl => rfl
              case hnl => decide +kernel
              with_reducible
               refine ie_seq ?_
               walk_at "s5"
               refine ⟨_, _, .dl rfl, .inr rfl, ?_⟩
               walk_at "s17"
              refine cp_cons ?_
              with_reducible
               refine ev_cmp rfl ?_
               walk_at "s2"
               walk_at "s7"
               refine ev_cint ?_
               refine cmp_ne_int ?_
              refine cp_cons ?_
              with_reducible
               refine ev_cmp rfl ?_
               walk_at "s2"
               walk_at "s7"
               refine ev_cint ?_
               refine cmp_ne_int ?_
              refine cp_nil ?_
              with_reducible
               refine ⟨_, rfl, ?_⟩
               walk_at "s6"
               refine' xs_ret ?_
               refine ev_tuple_a ?_
               refine' es_s ?_
               walk_at "s19"
               refine ev_ifexp ?_
               refine ts_ifexp ?_
               walk_at "s20"
               walk_at "s14"
               refine ts_bool ?_
               refine bs_and ?_
               refine ts_value (fun _ _ => rfl) ?_
               walk_at "s2"
               walk_at "s23"
               refine tru_bool ?_
              rw [if_neg (by decide), if_pos rfl] at k
              have k1 : u.pn ≠ 0 → v.pn ≠ 0 → K (.d (.tuple [.str "logical", .int 1])) σ := fun p q => by rw [tr, if_neg (Int.mul_ne_zero p q)] at k; exact k
              have k0 : u.pn = 0 ∨ v.pn = 0 → K (.d (.tuple [.str "logical", .int 0])) σ := fun p => by rw [tr, if_pos (by rcases p with p | p <;> simp [p])] at k; exact k
              refine ⟨fun p => ?_, fun p => ?_⟩
              · with_reducible
                 refine bs_and ?_
                 refine ts_value (fun _ _ => rfl) ?_
                 walk_at "s2"
                 walk_at "s23"
                 refine tru_bool ?_
                refine ⟨fun q => ?_, fun q => ?_⟩
                · with_reducible
                   refine bs_and_nil ?_
                   walk_at "s14"
                   refine ev_cint ?_
                   walk_at "s18"
                   refine ⟨_, TupOf.d rfl, ?_⟩
                   walk_at "s10"
                  exact k1 (by simpa using p) (by simpa using q)
                · with_reducible
                   walk_at "s9"
                   refine ev_cint ?_
                   walk_at "s18"
                   refine ⟨_, TupOf.d rfl, ?_⟩
                   walk_at "s10"
                  exact k0 (.inr (by simpa using q))
              · with_reducible
                 walk_at "s9"
                 refine ev_cint ?_
                 walk_at "s18"
                 refine ⟨_, TupOf.d rfl, ?_⟩
                 walk_at "s10"
                exact k0 (.inl (by simpa using p))
            · with_reducible
               walk_at "s14"
               refine xs_cons ?_
              refine' ex_comp_d (cap := []) (gl' := []) rfl (fun _ _ => rfl) ?hok (Caps.nil) (GS.nil) ?hy ?hl ?hnl ?_
              case hok => kernel_rfl
              case hy => rfl
              case hl => rfl
              case hnl => decide +kernel
              with_reducible
               refine ie_seq ?_
               walk_at "s5"
               refine ⟨_, _, .dl rfl, .inr rfl, ?_⟩
               walk_at "s17"
              refine cp_cons ?_
              with_reducible
               refine ev_cmp rfl ?_
               walk_at "s2"
               walk_at "s7"
               refine ev_cint ?_
               refine cmp_ne_int ?_
              refine cp_cons ?_
              with_reducible
               refine ev_cmp rfl ?_
               walk_at "s2"
               walk_at "s7"
               refine ev_cint ?_
               refine cmp_ne_int ?_
              refine cp_nil ?_
              with_reducible
               refine ⟨_, rfl, ?_⟩
               walk_at "s6"
               refine' xs_ret ?_
               refine ev_tuple_a ?_
               refine' es_s ?_
               walk_at "s19"
               refine ev_ifexp ?_
               refine ts_ifexp ?_
               walk_at "s20"
               walk_at "s9"
               refine ts_bool ?_
               refine bs_or ?_
               refine ts_value (fun _ _ => rfl) ?_
               walk_at "s2"
               walk_at "s23"
               refine tru_bool ?_
              rw [if_neg (by decide), if_neg (by decide +kernel), if_pos rfl] at k
              have k1 : u.pn ≠ 0 ∨ v.pn ≠ 0 → K (.d (.tuple [.str "logical", .int 1])) σ := fun p => by
                rw [show trOr u.pn v.pn = 1 by unfold trOr tr; split <;> first | rfl | (split <;> omega)] at k; exact k
              have k0 : u.pn = 0 → v.pn = 0 → K (.d (.tuple [.str "logical", .int 0])) σ := fun p q => by rw [trOr, if_pos p, tr, if_pos q] at k; exact k
              refine ⟨fun p => ?_, fun p => ?_⟩
              · with_reducible
                 walk_at "s14"
                 refine ev_cint ?_
                 walk_at "s18"
                 refine ⟨_, TupOf.d rfl, ?_⟩
                 walk_at "s10"
                exact k1 (.inl (by simpa using p))
              · with_reducible
                 refine bs_or ?_
                 refine ts_value (fun _ _ => rfl) ?_
                 walk_at "s2"
                 walk_at "s23"
                 refine tru_bool ?_
                refine ⟨fun q => ?_, fun q => ?_⟩
                · with_reducible
                   walk_at "s14"
                   refine ev_cint ?_
                   walk_at "s18"
                   refine ⟨_, TupOf.d rfl, ?_⟩
                   walk_at "s10"
                  exact k1 (.inr (by simpa using q))
                · with_reducible
                   refine bs_or_nil ?_
                   walk_at "s9"
                   refine ev_cint ?_
                   walk_at "s18"
                   refine ⟨_, TupOf.d rfl, ?_⟩
                   walk_at "s10"
                  exact k0 (by simpa using p) (by simpa using q)
theorem c_law_reckoned (hK : cx.K = HK P) : ∀ t : Tr, RecOK cx t
  | .leaf u => rec_leaf hK u
  | .x => rec_x hK
  | .un _ t _ => rec_un hK (c_law_reckoned hK t)
  | .bin _ a b _ => rec_bin hK (c_law_reckoned hK a) (c_law_reckoned hK b)
noncomputable abbrev PL (fa pa : Addr) (figs : List Int) (idx : Nat) (mix : Int) (σ : Sig) : Sig := (pa, [.lref fa, I idx, I mix]) :: (fa, figs.map fun i => I i) :: σ
section pk
theorem c_law_pick (hK : cx.K = HK P) {τ : Sig} {fa pa : Addr} {figs : List Int} {idx : Nat} {mix b : Int} (hb : 0 < b) (hf : figs.length ≤ 1000) (hm : 0 ≤ mix) (hm' : mix < 1009)
    (k : ∀ (n : Int) (idx' : Nat) (mix' : Int), 0 ≤ n → n < b → 0 ≤ mix' → mix' < 1009 → K (I n) (τ ++ PL fa pa figs idx' mix' σ)) : CalTo cx (r + 1) KE (.fn "_law_pick") [.lref pa, I b] (τ ++ PL fa pa figs idx mix σ) K := by
  have hlen : (figs.map fun i => I i).length ≤ 1000 := by simpa using hf
  refine go2 "pool" "bound" [("figure", .undef)] [("len", .cv (.builtin "len"))] rfl hK (fo_law_pick _) (by decide +kernel) (GS.cons (gvb_len hK) GS.nil) ?_
  conv => arg 6; whnf
  with_reducible
   refine' xs_if ?_
   refine ts_cmp rfl ?_
   walk_at "s2"
   refine' it_lref ?m_1 ?h_1 ?_; (case m_1 => walk_at "mem"); (case h_1 => with_unfolding_all exact rfl)
   walk_at "s0"
   walk_at "s19"
   walk_at "s2"
   refine' it_lref ?m_2 ?h_2 ?_; (case m_2 => walk_at "mem"); (case h_2 => with_unfolding_all exact rfl)
   refine bl_len_lref (by walk_at "mem") (by walk_at "len") ?_
   refine cmp_lt_int ?_
  have hb0 : b ≠ 0 := by omega
  have fin : ∀ (x : Int) (idx' : Nat) (mix' : Int), 0 ≤ mix' → mix' < 1009 → K (I (x.fmod b)) (τ ++ PL fa pa figs idx' mix' σ) := fun x idx' mix' p q => k _ idx' mix' (Int.fmod_nonneg_of_pos x hb) (Int.fmod_lt_of_pos x hb) p q
  refine ⟨fun h => ?_, fun h => ?_⟩
  · have h : (idx : Int) < ((figs.map fun i => I i).length : Nat) := of_decide_eq_true h
    have hi : idx < figs.length := by simpa using h
    have hx : (figs.map fun i => I i)[(idx : Int).toNat]? = some (I figs[idx]) := by simp [hi]
    have h0 : (0 : Int) ≤ idx := by omega
    have h1 : (idx : Int) < 2 ^ 63 := by omega
    with_reducible
     walk_at "s16"
     refine ev_sub (fun _ _ => ⟨_, rfl⟩) ?_
     walk_at "s2"
     refine' it_lref ?m_3 ?h_3 ?_; (case m_3 => walk_at "mem"); (case h_3 => with_unfolding_all exact rfl)
     walk_at "s2"
     refine' it_lref ?m_4 ?h_4 ?_; (case m_4 => walk_at "mem"); (case h_4 => with_unfolding_all exact rfl)
    refine item_lref (by walk_at "mem") h0 h1 hx ?_
    with_reducible
     walk_at "s6"
     refine xs_cons ?_
     refine ex_augitem (fun _ _ _ => rfl) ?_
     walk_at "s5"
     refine ev_cint ?_
     refine' it_lref ?m_5 ?h_5 ?_; (case m_5 => walk_at "mem"); (case h_5 => with_unfolding_all exact rfl)
     refine ev_cint ?_
     refine in_add ?_
     refine' si_lref ?h0_6 ?hk_6 ?hn_6 ?su_6 ?_; (case su_6 => walk_at "su"); (case h0_6 => decide); (case hk_6 => decide); (case hn_6 => with_unfolding_all exact of_decide_eq_true rfl)
     refine xs_nil ?_
     refine' xs_ret ?_
     walk_at "s11"
     refine bin_mod (by first | assumption | omega | exact of_decide_eq_true rfl) ?_
     walk_at "s10"
    exact fin _ (idx + 1) mix hm hm'
  · with_reducible
     refine' xs_if ?_
     refine' ts_cmp_i rfl ?_
     walk_at "s0"
     walk_at "s19"
     walk_at "s2"
     refine' it_lref ?m_7 ?h_7 ?_; (case m_7 => walk_at "mem"); (case h_7 => with_unfolding_all exact rfl)
     refine bl_len_lref (by walk_at "mem") (by walk_at "len") ?_
     refine cmp_lt_int ?_
    refine ⟨fun h => ?_, fun h => ?_⟩
    · with_reducible
       walk_at "s16"
       refine ev_cint ?_
       walk_at "s6"
       refine xs_nil ?_
       refine xs_nil ?_
       refine' xs_ret ?_
       walk_at "s11"
       refine bin_mod (by first | assumption | omega | exact of_decide_eq_true rfl) ?_
       walk_at "s10"
      exact fin _ idx mix hm hm'
    · have o1 : IntMulOk mix 37 := .of_right (by decide)
      with_reducible
       refine xs_cons ?_
       refine ex_setitem (fun _ => rfl) ?_
       refine ev_bin ?_
       refine ev_bin ?_
       refine ev_bin ?_
       walk_at "s2"
       refine' it_lref ?m_8 ?h_8 ?_; (case m_8 => walk_at "mem"); (case h_8 => with_unfolding_all exact rfl)
       refine ev_cint ?_
       walk_at "s21"
       refine ev_cint ?_
       refine bin_add ?_
       refine ev_cint ?_
       refine bin_mod (by first | assumption | omega | exact of_decide_eq_true rfl) ?_
       walk_at "s5"
       refine ev_cint ?_
       refine' si_lref ?h0_9 ?hk_9 ?hn_9 ?su_9 ?_; (case su_9 => walk_at "su"); (case h0_9 => decide); (case hk_9 => decide); (case hn_9 => with_unfolding_all exact of_decide_eq_true rfl)
       walk_at "s16"
       walk_at "s2"
       refine' it_lref ?m_10 ?h_10 ?_; (case m_10 => walk_at "mem"); (case h_10 => with_unfolding_all exact rfl)
       walk_at "s6"
       refine xs_nil ?_
       refine xs_nil ?_
       refine' xs_ret ?_
       walk_at "s11"
       refine bin_mod (by first | assumption | omega | exact of_decide_eq_true rfl) ?_
       walk_at "s10"
      exact fin _ idx _ (Int.fmod_nonneg_of_pos _ (by decide)) (Int.fmod_lt_of_pos _ (by decide))
end pk
structure TreeOf (d : Nat) (t : Tr) : Prop where
  wf : t.WF
  ht : t.ht + d ≤ 4
  nn : t.nn + 1 ≤ 2 ^ (5 - d)
noncomputable def TreeOK (cx : Cx) (d : Nat) : Prop := ∀ (r : Nat), 4 ≤ r + d → ∀ (σ : Sig) (K : AV → Sig → Prop) (KE : Sig → Prop) (fa pa sa : Addr) (figs : List Int) (idx : Nat) (mix s : Int), figs.length ≤ 1000 → 0 ≤ mix → mix < 1009 →
  (∀ (t : Tr) (idx' : Nat) (mix' s' : Int), TreeOf d t → 0 ≤ mix' → mix' < 1009 → K (.d (TD t)) ((sa, [I s']) :: PL fa pa figs idx' mix' σ)) → CalTo cx (r + 3) KE (.fn "_law_tree") [.lref pa, .lref sa, I d] ((sa, [I s]) :: PL fa pa figs idx mix σ) K
noncomputable abbrev rows7 : List AV := [.d (TD (.leaf (.w false 2147483647))), .d (TD (.leaf (.d 3 1))), .d (TD (.leaf (.d 1 2))), .d (TD (.leaf (.d 0 1))), .d (TD (.leaf (.w false 2))), .d (TD (.leaf (.w false 0))), .d (TD (.leaf (.w true 1)))]
noncomputable abbrev rows5 : List AV := [.d (TD (.leaf (.w true 0))), .d (TD (.leaf (.d 7 1))), .d (TD (.leaf (.w false 46341))), .d (TD (.leaf .c)), .d (TD .x)]
noncomputable abbrev rowsL : List AV := rows7 ++ rows5
theorem ok_leaf {u : Lf} (h1 : u.pn.natAbs < 2 ^ 32) (h2 : u.pd.natAbs < 2 ^ 32) (h3 : 0 < u.pd) (h4 : ∀ b n, u = .w b n → n.natAbs ≤ 2147483647) (h5 : Nat.gcd u.pn.natAbs u.pd.natAbs = 1) : u.Oc 32 := ⟨h1, h2, h3, h4, h5⟩
theorem rows_at {d : Nat} (hd : d ≤ 4) {n : Int} (h0 : 0 ≤ n) (h1 : n < 12) : ∃ t, TreeOf d t ∧ rowsL[n.toNat]? = some (.d (TD t)) := by
  obtain ⟨m, rfl⟩ := Int.eq_ofNat_of_zero_le h0
  have hm : m < 12 := by omega
  have two : 2 ≤ 2 ^ (5 - d) := by
    have : 2 ^ 1 ≤ 2 ^ (5 - d) := Nat.pow_le_pow_right (by decide) (by omega)
    exact this
  have L : ∀ u : Lf, u.Oc 32 → TreeOf d (.leaf u) := fun u h => ⟨h, by show 0 + d ≤ 4; omega, two⟩
  match m, hm with
  | 0, _ => exact ⟨_, L _ (ok_leaf (by decide) (by decide) (by decide) (by rintro b n ⟨⟩; decide) (by decide)), rfl⟩
  | 1, _ => exact ⟨_, L _ (ok_leaf (by decide) (by decide) (by decide) (by rintro b n ⟨⟩) (by decide)), rfl⟩
  | 2, _ => exact ⟨_, L _ (ok_leaf (by decide) (by decide) (by decide) (by rintro b n ⟨⟩) (by decide)), rfl⟩
  | 3, _ => exact ⟨_, L _ (ok_leaf (by decide) (by decide) (by decide) (by rintro b n ⟨⟩) (by decide)), rfl⟩
  | 4, _ => exact ⟨_, L _ (ok_leaf (by decide) (by decide) (by decide) (by rintro b n ⟨⟩; decide) (by decide)), rfl⟩
  | 5, _ => exact ⟨_, L _ (ok_leaf (by decide) (by decide) (by decide) (by rintro b n ⟨⟩; decide) (by decide)), rfl⟩
  | 6, _ => exact ⟨_, L _ (ok_leaf (by decide) (by decide) (by decide) (by rintro b n ⟨⟩; decide) (by decide)), rfl⟩
  | 7, _ => exact ⟨_, L _ (ok_leaf (by decide) (by decide) (by decide) (by rintro b n ⟨⟩; decide) (by decide)), rfl⟩
  | 8, _ => exact ⟨_, L _ (ok_leaf (by decide) (by decide) (by decide) (by rintro b n ⟨⟩) (by decide)), rfl⟩
  | 9, _ => exact ⟨_, L _ (ok_leaf (by decide) (by decide) (by decide) (by rintro b n ⟨⟩; decide) (by decide)), rfl⟩
  | 10, _ => exact ⟨_, L _ (ok_leaf (by decide) (by decide) (by decide) (by rintro b n ⟨⟩) (by decide)), rfl⟩
  | 11, _ => exact ⟨.x, ⟨trivial, by show 0 + d ≤ 4; omega, two⟩, rfl⟩
theorem ops_un {n : Int} (h0 : 0 ≤ n) (h1 : n < 4) : ∃ op : Str, (op = "-" ∨ op = "!" ∨ op = "(" ∨ op = "f") ∧ ([S "-", S "!", S "(", S "f"] : List AV)[n.toNat]? = some (S op) := by
  obtain ⟨m, rfl⟩ := Int.eq_ofNat_of_zero_le h0
  have hm : m < 4 := by omega
  match m, hm with
  | 0, _ => exact ⟨_, .inl rfl, rfl⟩
  | 1, _ => exact ⟨_, .inr (.inl rfl), rfl⟩
  | 2, _ => exact ⟨_, .inr (.inr (.inl rfl)), rfl⟩
  | 3, _ => exact ⟨_, .inr (.inr (.inr rfl)), rfl⟩
theorem ops_bin {n : Int} (h0 : 0 ≤ n) (h1 : n < 13) : ∃ op : Str, (arN op ∨ cmN op ∨ op = "&" ∨ op = "|") ∧ ([S "+", S "-", S "*", S "/", S "^", S "%%", S "%/%", S "==", S "<", S ">=", S "!=", S "&", S "|"] : List AV)[n.toNat]? = some (S op) := by
  obtain ⟨m, rfl⟩ := Int.eq_ofNat_of_zero_le h0
  have hm : m < 13 := by omega
  match m, hm with
  | 0, _ => exact ⟨_, .inl (.inl rfl), rfl⟩
  | 1, _ => exact ⟨_, .inl (.inr (.inl rfl)), rfl⟩
  | 2, _ => exact ⟨_, .inl (.inr (.inr (.inl rfl))), rfl⟩
  | 3, _ => exact ⟨_, .inl (.inr (.inr (.inr (.inl rfl)))), rfl⟩
  | 4, _ => exact ⟨_, .inl (.inr (.inr (.inr (.inr (.inl rfl))))), rfl⟩
  | 5, _ => exact ⟨_, .inl (.inr (.inr (.inr (.inr (.inr (.inl rfl)))))), rfl⟩
  | 6, _ => exact ⟨_, .inl (.inr (.inr (.inr (.inr (.inr (.inr rfl)))))), rfl⟩
  | 7, _ => exact ⟨_, .inr (.inl (.inl rfl)), rfl⟩
  | 8, _ => exact ⟨_, .inr (.inl (.inr (.inr (.inl rfl)))), rfl⟩
  | 9, _ => exact ⟨_, .inr (.inl (.inr (.inr (.inr rfl)))), rfl⟩
  | 10, _ => exact ⟨_, .inr (.inl (.inr (.inl rfl))), rfl⟩
  | 11, _ => exact ⟨_, .inr (.inr (.inl rfl)), rfl⟩
  | 12, _ => exact ⟨_, .inr (.inr (.inr rfl)), rfl⟩
theorem tree_un {d : Nat} {op : Str} {t : Tr} {tag : Bool} (hd : d < 4) (ho : op = "-" ∨ op = "!" ∨ op = "(" ∨ op = "f") (h : TreeOf (d + 1) t) : TreeOf d (.un op t tag) :=
  ⟨⟨ho, h.wf⟩, by have := h.ht; show t.ht + 1 + d ≤ 4; omega, by
    have := h.nn
    show t.nn + 1 + 1 ≤ 2 ^ (5 - d)
    rw [show 5 - d = 5 - (d + 1) + 1 by omega, Nat.pow_succ]
    omega⟩
theorem tree_bin {d : Nat} {op : Str} {a b : Tr} {tag : Bool} (hd : d < 4) (ho : arN op ∨ cmN op ∨ op = "&" ∨ op = "|") (h1 : TreeOf (d + 1) a) (h2 : TreeOf (d + 1) b) : TreeOf d (.bin op a b tag) :=
  ⟨⟨ho, h1.wf, h2.wf⟩, by have := h1.ht; have := h2.ht; show max a.ht b.ht + 1 + d ≤ 4; omega, by
    have := h1.nn
    have := h2.nn
    show a.nn + b.nn + 1 + 1 ≤ 2 ^ (5 - d)
    rw [show 5 - d = 5 - (d + 1) + 1 by omega, Nat.pow_succ]
    omega⟩
section tree
noncomputable def Bnd (d : Nat) (τ : Sig) (a : AV) (σ' : Sig) : Prop := (∃ b : Int, a = I b ∧ 0 < b ∧ (2 < b → d < 4 ∧ b ≤ 9)) ∧ σ' = τ
theorem tree_step (hK : cx.K = HK P) {d : Nat} (hd : d ≤ 4) (ih : d < 4 → TreeOK cx (d + 1)) : TreeOK cx d := by
  intro r hr σ K KE fa pa sa figs idx mix s hf hm hm' k
  refine go3 "pool" "spare" "deep" [("kind", .undef), ("rows", .undef), ("name", .undef)] [("_law_pick", .fn "_law_pick"), ("_law_tree", .fn "_law_tree"), ("range", .cv (.type "range"))] rfl hK (fo_law_tree _) (by decide +kernel) (GS.cons (gv_law_pick hK) (GS.cons (gv_law_tree hK) (GS.cons (gvb_range hK) GS.nil))) ?_
  conv => arg 6; whnf
  with_reducible
   refine xs_cons ?_
   refine ex_augitem (fun _ _ _ => rfl) ?_
   walk_at "s5"
   refine ev_cint ?_
   refine' it_lref ?m_1 ?h_1 ?_; (case m_1 => walk_at "mem"); (case h_1 => with_unfolding_all exact rfl)
   refine ev_cint ?_
   refine in_sub ?_
   refine' si_lref ?h0_2 ?hk_2 ?hn_2 ?su_2 ?_; (case su_2 => walk_at "su"); (case h0_2 => decide); (case hk_2 => decide); (case hn_2 => with_unfolding_all exact of_decide_eq_true rfl)
   walk_at "s16"
   walk_at "s0"
   walk_at "s3"
   walk_at "s19"
  refine ev_mono (K := Bnd d ((sa, [I (s - 1)]) :: PL fa pa figs idx mix σ)) ?_ ?_
  · with_reducible
     refine ev_ifexp ?_
     refine ts_bool ?_
     refine bs_and ?_
     refine' ts_cmp_li ?l_3 ?u_3 rfl ?_; (case l_3 => walk_at "lk"); (case u_3 => walk_at "und")
     refine cmp_lt_int ?_
    refine ⟨fun h => ?_, fun h => ?_⟩
    · have h : (d : Int) < 4 := of_decide_eq_true h
      with_reducible
       refine bs_and ?_
       refine' ts_cmp_i rfl ?_
       walk_at "s2"
       refine' it_lref ?m_4 ?h_4 ?_; (case m_4 => walk_at "mem"); (case h_4 => with_unfolding_all exact rfl)
       refine cmp_gt_int ?_
      refine ⟨fun h => ?_, fun h => ?_⟩
      · with_reducible
         refine bs_and_nil ?_
         walk_at "s14"
         refine ev_cint ?_
        exact ⟨⟨9, rfl, by decide, fun _ => ⟨by omega, by decide⟩⟩, rfl⟩
      · with_reducible
         walk_at "s9"
         refine ev_cint ?_
        exact ⟨⟨2, rfl, by decide, fun h => absurd h (by decide)⟩, rfl⟩
    · with_reducible
       walk_at "s9"
       refine ev_cint ?_
      exact ⟨⟨2, rfl, by decide, fun h => absurd h (by decide)⟩, rfl⟩
  · rintro a τ ⟨⟨b, rfl, hb, hb2⟩, rfl⟩
    refine c_law_pick hK (τ := [(sa, [I (s - 1)])]) hb hf hm hm' fun n idx mix h1 h2 hm hm' => ?_
    simp only [List.cons_append, List.nil_append]
    with_reducible
     walk_at "s6"
     refine' xs_if0 ?_
     refine' ts_cmp_li ?l_5 ?u_5 rfl ?_; (case l_5 => walk_at "lk"); (case u_5 => walk_at "und")
     refine cmp_lt_int ?_
    refine ⟨fun h => ?_, fun h => ?_⟩
    · with_reducible
       walk_at "s16"
       refine ev_list_m (es := .Tuple _ _ _ :: _) ?_
       refine es_cons (fun _ => rfl) ?_
       refine ev_tuple_a ?_
       refine' es_s ?_
       refine' es_i1 ?_
       walk_at "s18"
       refine ⟨_, TupOf.d rfl, ?_⟩
       refine es_cons (fun _ => rfl) ?_
       refine ev_tuple_a ?_
       refine' es_s ?_
       walk_at "s19"
       refine ev_tuple_a ?_
       refine' es_i ?_
       refine' es_i1 ?_
       walk_at "s18"
       refine ⟨_, TupOf.d rfl, ?_⟩
       walk_at "s18"
       refine ⟨_, TupOf.d rfl, ?_⟩
       refine es_cons (fun _ => rfl) ?_
       refine ev_tuple_a ?_
       refine' es_s ?_
       walk_at "s19"
       refine ev_tuple_a ?_
       refine' es_i ?_
       refine' es_i1 ?_
       walk_at "s18"
       refine ⟨_, TupOf.d rfl, ?_⟩
       walk_at "s18"
       refine ⟨_, TupOf.d rfl, ?_⟩
       refine es_cons (fun _ => rfl) ?_
       refine ev_tuple_a ?_
       refine' es_s ?_
       walk_at "s19"
       refine ev_tuple_a ?_
       refine' es_i ?_
       refine' es_i1 ?_
       walk_at "s18"
       refine ⟨_, TupOf.d rfl, ?_⟩
       walk_at "s18"
       refine ⟨_, TupOf.d rfl, ?_⟩
       refine es_cons (fun _ => rfl) ?_
       refine ev_tuple_a ?_
       refine' es_s ?_
       refine' es_i1 ?_
       walk_at "s18"
       refine ⟨_, TupOf.d rfl, ?_⟩
       refine es_cons (fun _ => rfl) ?_
       refine ev_tuple_a ?_
       refine' es_s ?_
       refine' es_i1 ?_
       walk_at "s18"
       refine ⟨_, TupOf.d rfl, ?_⟩
       walk_at "s19"
       refine ev_tuple_a ?_
       refine' es_s ?_
       refine' es_i1 ?_
       walk_at "s18"
       refine ⟨_, TupOf.d rfl, ?_⟩
       walk_at "s18"
       intro
       walk_at "s6"
       refine xs_cons ?_
       refine' ex_aug ?l_6 ?u_6 ?_; (case l_6 => walk_at "lk"); (case u_6 => walk_at "und")
       refine ev_list_m (es := .Tuple _ _ _ :: _) ?_
       refine es_cons (fun _ => rfl) ?_
       refine ev_tuple_a ?_
       refine' es_s ?_
       refine' es_i1 ?_
       walk_at "s18"
       refine ⟨_, TupOf.d rfl, ?_⟩
       refine es_cons (fun _ => rfl) ?_
       refine ev_tuple_a ?_
       refine' es_s ?_
       walk_at "s19"
       refine ev_tuple_a ?_
       refine' es_i ?_
       refine' es_i1 ?_
       walk_at "s18"
       refine ⟨_, TupOf.d rfl, ?_⟩
       walk_at "s18"
       refine ⟨_, TupOf.d rfl, ?_⟩
       refine es_cons (fun _ => rfl) ?_
       refine ev_tuple_a ?_
       refine' es_s ?_
       refine' es_i1 ?_
       walk_at "s18"
       refine ⟨_, TupOf.d rfl, ?_⟩
       refine es_cons (fun _ => rfl) ?_
       refine ev_tuple_a ?_
       refine' es_s ?_
       refine' es_s1 ?_
       walk_at "s18"
       refine ⟨_, TupOf.d rfl, ?_⟩
       walk_at "s19"
       refine ev_tuple_a ?_
       refine' es_s ?_
       refine' es_s1 ?_
       walk_at "s18"
       refine ⟨_, TupOf.d rfl, ?_⟩
       walk_at "s18"
       intro
      refine in_add_list (l := rows7) (m := rows5) (.tail .head) (.lref List.mem_cons_self) (by decide) ?_
      with_reducible
       walk_at "s6"
       refine' xs_ret ?_
       refine ev_sub (fun _ _ => ⟨_, rfl⟩) ?_
       walk_at "s5"
       walk_at "s0"
       walk_at "s3"
       walk_at "s19"
       refine ev_ifexp ?_
       refine' ts_cmp_i rfl ?_
       walk_at "s0"
       walk_at "s3"
       refine' es_i1 ?_
      refine c_law_pick hK (τ := [_, _, (sa, [I (s - 1)])]) (by decide) hf hm hm' fun n idx mix _ _ hm hm' => ?_
      simp only [List.cons_append, List.nil_append]
      with_reducible
       refine cmp_eq_int ?_
      refine ⟨fun _ => ?_, fun _ => ?_⟩
      · with_reducible
         refine ev_cint ?_
        refine c_law_pick hK (τ := [_, _, (sa, [I (s - 1)])]) (by decide) hf hm hm' fun n idx mix h1 h2 hm hm' => ?_
        simp only [List.cons_append, List.nil_append]
        obtain ⟨t, ht, hx⟩ := rows_at hd h1 (by omega)
        refine item_lref (l := rowsL) (List.mem_cons_of_mem _ List.mem_cons_self) h1 (by omega) hx ?_
        exact ⟨_, ((List.sublist_cons_self _ _).trans (List.sublist_cons_self _ _)), k t idx mix _ ht hm hm'⟩
      · with_reducible
         refine ev_cint ?_
        refine c_law_pick hK (τ := [_, _, (sa, [I (s - 1)])]) (by decide) hf hm hm' fun n idx mix h1 h2 hm hm' => ?_
        simp only [List.cons_append, List.nil_append]
        obtain ⟨t, ht, hx⟩ := rows_at hd h1 (by omega)
        refine item_lref (l := rowsL) (List.mem_cons_of_mem _ List.mem_cons_self) h1 (by omega) hx ?_
        exact ⟨_, ((List.sublist_cons_self _ _).trans (List.sublist_cons_self _ _)), k t idx mix _ ht hm hm'⟩
    · have h : ¬ n < 2 := of_decide_eq_false h
      obtain ⟨d4, b9⟩ := hb2 (by omega)
      obtain ⟨r, rfl⟩ : ∃ r', r = r' + 1 := ⟨r - 1, by omega⟩
      have ed : (d : Int) + 1 = ((d + 1 : Nat) : Int) := by omega
      have ih := ih d4 r (by omega) σ
      with_reducible
       refine' xs_if0 ?_
       refine' ts_eqi_l ?l_7 ?_; (case l_7 => walk_at "lk")
      refine ⟨fun h => ?_, fun h => ?_⟩
      · with_reducible
         walk_at "s16"
         refine ev_sub (fun _ _ => ⟨_, rfl⟩) ?_
         refine ev_list_a ?_
         refine' es_s ?_
         refine' es_s ?_
         refine' es_s ?_
         refine' es_s1 ?_
         walk_at "s18"
         refine ⟨_, LstOf.d rfl, ?_⟩
         walk_at "s0"
         walk_at "s3"
         refine' es_i1 ?_
        refine c_law_pick hK (τ := [(sa, [I (s - 1)])]) (by decide) hf hm hm' fun n idx mix h1 h2 hm hm' => ?_
        simp only [List.cons_append, List.nil_append]
        obtain ⟨op, ho, hx⟩ := ops_un h1 h2
        refine item_of (.dl rfl) (.inr rfl) h1 (by omega) hx ?_
        with_reducible
         walk_at "s6"
         refine' xs_ret ?_
         refine ev_tuple_a ?_
         refine' es_s ?_
         walk_at "s3"
         refine es_cons (fun _ => rfl) ?_
         refine ev_list_a ?_
         walk_at "s19"
         walk_at "s0"
         walk_at "s3"
         walk_at "s3"
         walk_at "s19"
         refine' ev_bin_li ?l_8 ?u_8 ?_; (case l_8 => walk_at "lk"); (case u_8 => walk_at "und")
         refine bin_add ?_
        rw [ed]
        refine ih _ _ fa pa sa figs idx mix (s - 1) hf hm hm' fun t idx mix s ht hm hm' => ?_
        with_reducible
         walk_at "s17"
         refine ⟨_, LstOf.d rfl, ?_⟩
         walk_at "s19"
         refine ev_cmp rfl ?_
         walk_at "s0"
         walk_at "s3"
         refine' es_i1 ?_
        refine c_law_pick hK (τ := [(sa, [I s])]) (by decide) hf hm hm' fun n idx mix h1 h2 hm hm' => ?_
        simp only [List.cons_append, List.nil_append]
        with_reducible
         refine ev_cint ?_
         refine cmp_eq_int ?_
         walk_at "s17"
         refine ⟨_, TupOf.d rfl, ?_⟩
         walk_at "s10"
        exact k (.un op t (n == 8)) idx mix s (tree_un d4 ho ht) hm hm'
      · with_reducible
         walk_at "s16"
         refine ev_sub (fun _ _ => ⟨_, rfl⟩) ?_
         refine ev_list_a ?_
         refine' es_s ?_
         refine' es_s ?_
         refine' es_s ?_
         refine' es_s ?_
         refine' es_s ?_
         refine' es_s ?_
         refine' es_s ?_
         refine' es_s ?_
         refine' es_s ?_
         refine' es_s ?_
         refine' es_s ?_
         refine' es_s ?_
         refine' es_s1 ?_
         walk_at "s18"
         refine ⟨_, LstOf.d rfl, ?_⟩
         walk_at "s0"
         walk_at "s3"
         refine' es_i1 ?_
        refine c_law_pick hK (τ := [(sa, [I (s - 1)])]) (by decide) hf hm hm' fun n idx mix h1 h2 hm hm' => ?_
        simp only [List.cons_append, List.nil_append]
        obtain ⟨op, ho, hx⟩ := ops_bin h1 h2
        refine item_of (.dl rfl) (.inr rfl) h1 (by omega) hx ?_
        with_reducible
         walk_at "s6"
         refine' xs_ret ?_
         refine ev_tuple_a ?_
         refine' es_s ?_
         walk_at "s3"
         refine es_cons (fun _ => rfl) ?_
        refine' ev_comp_d (cap := [("pool", _), ("spare", _), ("deep", _)]) (gl' := [("_law_tree", .fn "_law_tree")]) rfl (fun _ _ => rfl) ?hok (Caps.cons (by walk_at "lk") (Caps.cons (by walk_at "lk") (Caps.cons (by walk_at "lk") (Caps.nil)))) (GS.cons (gv_law_tree hK) GS.nil) ?_
        case hok => kernel_rfl
        with_reducible
         refine ie_rng ?_
         walk_at "s0"
         refine' es_i1 ?_
         refine bl_range ?_
         refine ⟨_, rfl, by decide, by decide, ?_⟩
         walk_at "s18"
        refine cp_cons ?_
        with_reducible
         walk_at "s0"
         walk_at "s3"
         walk_at "s3"
         walk_at "s19"
         refine' ev_bin_li ?l_9 ?u_9 ?_; (case l_9 => walk_at "lk"); (case u_9 => walk_at "und")
         refine bin_add ?_
        rw [ed]
        refine ih _ _ fa pa sa figs idx mix (s - 1) hf hm hm' fun t1 idx mix s h1 hm hm' => ?_
        refine cp_cons ?_
        with_reducible
         walk_at "s0"
         walk_at "s3"
         walk_at "s3"
         walk_at "s19"
         refine' ev_bin_li ?l_10 ?u_10 ?_; (case l_10 => walk_at "lk"); (case u_10 => walk_at "und")
         refine bin_add ?_
        rw [ed]
        refine ih _ _ fa pa sa figs idx mix s hf hm hm' fun t2 idx mix s h2 hm hm' => ?_
        refine cp_nil ?_
        with_reducible
         refine ⟨_, rfl, ?_⟩
         walk_at "s19"
         refine ev_cmp rfl ?_
         walk_at "s0"
         walk_at "s3"
         refine' es_i1 ?_
        refine c_law_pick hK (τ := [(sa, [I s])]) (by decide) hf hm hm' fun n idx mix _ _ hm hm' => ?_
        simp only [List.cons_append, List.nil_append]
        with_reducible
         refine ev_cint ?_
         refine cmp_eq_int ?_
         walk_at "s17"
         refine ⟨_, TupOf.d rfl, ?_⟩
         walk_at "s10"
        exact k (.bin op t1 t2 (n == 19)) idx mix s (tree_bin d4 ho h1 h2) hm hm'
end tree
theorem c_law_tree (hK : cx.K = HK P) : ∀ {m d : Nat}, d + m = 4 → TreeOK cx d
  | 0, d, h => tree_step hK (by omega) fun h' => absurd h' (by omega)
  | m + 1, d, h => tree_step hK (by omega) fun _ => c_law_tree hK (m := m) (d := d + 1) (by omega)
noncomputable abbrev PM (xs : List Int) (fa : Addr) (mix : Int) (a b c d : AV) : Loc := [("script", .d (.list (xs.map .int))), ("figures", .lref fa), ("mix", I mix), ("cell", a), ("big", b), ("rest", c), ("step", d)]
noncomputable abbrev FL (figs : List Int) : List AV := figs.map fun i => I i
noncomputable def PoI (xs : List Int) (fa : Addr) (σ0 : Sig) (l : List AV) (ma : Loc) (σ : Sig) : Prop :=
  ∃ (figs : List Int) (mix : Int) (a b c d : AV), ma = PM xs fa mix a b c d ∧ σ = (fa, FL figs) :: σ0 ∧ figs.length ≤ 400 ∧ 0 ≤ mix ∧ mix < 1009 ∧ ∃ ys : List Int, l = FL ys
noncomputable def PiI (xs : List Int) (fa : Addr) (σ0 : Sig) (mix : Int) (a b : AV) (l : List AV) (ma : Loc) (σ : Sig) : Prop :=
  ∃ (figs : List Int) (rest : Int) (d : AV), ma = PM xs fa mix a b (I rest) d ∧ σ = (fa, FL figs) :: σ0 ∧ figs.length + l.length ≤ 460
theorem FL_add (figs : List Int) (x : Int) : FL figs ++ [I x] = FL (figs ++ [x]) := by simp [FL]
section pool
theorem c_law_pool (hK : cx.K = HK P) {xs : List Int} (hx : xs.length ≤ 63) (k : ∀ (fa pa : Addr) (figs : List Int) (mix : Int), figs.length ≤ 1000 → 0 ≤ mix → mix < 1009 → K (.lref pa) (PL fa pa figs 0 mix σ)) : CalTo cx (r + 1) KE (.fn "_law_pool") [.d (.list (xs.map .int))] σ K := by
  have hxs : (xs.map PyData.int).length ≤ sizeLine := le_line (by simp; omega)
  refine go1 "script" [("figures", .undef), ("mix", .undef), ("cell", .undef), ("big", .undef), ("rest", .undef), ("step", .undef)] [("int", .cv (.type "int")), ("abs", .cv (.builtin "abs")), ("range", .cv (.type "range")), ("len", .cv (.builtin "len"))] rfl hK (fo_law_pool _) (by decide +kernel) (GS.cons (gvb_int hK) (GS.cons (gvb_abs hK) (GS.cons (gvb_range hK) (GS.cons (gvb_len hK) GS.nil)))) ?_
  conv => arg 6; whnf
  with_reducible
   walk_at "s16"
   refine ev_list_m ?_
   refine es_nil ?_
   walk_at "s18"
   intro
   walk_at "s6"
   walk_at "s16"
   refine ev_cint ?_
   walk_at "s6"
   refine xs_cons ?_
   refine ex_for (fun _ _ => rfl) ?_
   refine ie_seq ?_
   refine ev_forty ?_
   walk_at "s5"
   refine ⟨_, rfl, ?_⟩
  refine ⟨hxs, ?_⟩
  with_reducible
   refine ⟨_, _, .dl rfl, .inr rfl, ?_⟩
  rename_i fa
  refine for_inv (PoI xs fa σ) ?done ?step _ _ _ ⟨[], 5, _, _, _, _, rfl, rfl, by decide, by decide, by decide, xs.take 40, by simp only [FL, List.map_take, List.map_map]; rfl⟩
  case done =>
    rintro ma τ ⟨figs, mix, a, b, c, d, rfl, rfl, h1, h2, h3, -⟩
    with_reducible
     refine' xs_ret ?_
     refine ev_list_m ?_
     walk_at "s3"
     refine' es_i ?_
     walk_at "s1"
     walk_at "s17"
     intro
     walk_at "s10"
    exact k _ _ figs mix (by omega) h2 h3
  case step =>
    rintro x l ma τ ⟨figs, mix, a, b, c, d, rfl, rfl, h1, h2, h3, ys, hy⟩
    cases ys with
    | nil => cases hy
    | cons y ys =>
      obtain ⟨rfl, rfl⟩ : x = I y ∧ l = FL ys := by cases hy; exact ⟨rfl, rfl⟩
      with_reducible
       walk_at "s6"
       walk_at "s16"
       walk_at "s0"
       walk_at "s1"
       refine bl_int ?_
       walk_at "s6"
       walk_at "s16"
       refine ev_bin ?_
       refine ev_bin ?_
       refine' ev_bin_li ?l_1 ?u_1 ?_; (case l_1 => walk_at "lk"); (case u_1 => walk_at "und")
       walk_at "s21"
       walk_at "s5"
       refine bin_add ?_
       refine ev_cint ?_
       refine bin_mod (by first | assumption | omega | exact of_decide_eq_true rfl) ?_
       walk_at "s6"
       walk_at "s16"
       walk_at "s0"
       walk_at "s1"
       refine bl_abs ?_
       walk_at "s6"
       refine xs_cons ?_
       refine ex_for (fun _ _ => rfl) ?_
       refine ie_rng ?_
       walk_at "s0"
       refine' es_i1 ?_
       refine bl_range ?_
       refine ⟨_, rfl, by decide, by decide, ?_⟩
      have m1 := Int.fmod_nonneg_of_pos (mix * 31 + y) (b := 1009) (by decide)
      have m2 := Int.fmod_lt_of_pos (mix * 31 + y) (b := 1009) (by decide)
      generalize (mix * 31 + y).fmod 1009 = mix at m1 m2 ⊢
      refine for_inv (PiI xs fa σ mix (I y) (I y)) ?done ?step _ _ _ ⟨figs, _, _, rfl, rfl, by simp; omega⟩
      case done =>
        rintro ma τ ⟨figs, rest, d, rfl, rfl, h1⟩
        have hl : (FL figs).length ≤ 1000 := by simp [FL] at h1 ⊢; omega
        with_reducible
         refine' xs_if0 ?_
         refine' ts_cmp_i rfl ?_
         walk_at "s0"
         walk_at "s1"
         refine bl_len_lref (by walk_at "mem") (by walk_at "len") ?_
         refine cmp_gt_int ?_
        refine ⟨fun h => ?_, fun h => ?_⟩
        · with_reducible
           refine xs_cons ?_
           refine ex_break ?_
           refine' xs_ret ?_
           refine ev_list_m ?_
           walk_at "s3"
           refine' es_i ?_
           walk_at "s1"
           walk_at "s17"
           intro
           walk_at "s10"
          exact k _ _ figs mix (by simpa [FL] using hl) m1 m2
        · have h : ¬ (400 : Int) < (FL figs).length := of_decide_eq_false h
          with_reducible
           refine xs_nil ?_
          exact ⟨figs, mix, _, _, _, _, rfl, rfl, by simp [FL] at h; omega, m1, m2, ys, rfl⟩
      case step =>
        rintro x l ma τ ⟨figs, rest, d, rfl, rfl, h1⟩
        have hl : (FL figs).length ≤ 1000 := by simp [FL] at h1 ⊢; omega
        have hl2 : (figs ++ [rest.fmod 840]).length + l.length ≤ 460 := by simp at h1 ⊢; omega
        with_reducible
         walk_at "s6"
         refine' xs_do (fun _ => rfl) ?_
         refine ev_append (fun _ => rfl) (fun _ => rfl) rfl (fun _ => rfl) ?_
         walk_at "s5"
         refine ⟨_, rfl, ⟨_, by walk_at "mem"⟩, ?_⟩
         refine' ev_bin_li ?l_2 ?u_2 ?_; (case l_2 => walk_at "lk"); (case u_2 => walk_at "und")
         refine bin_mod (by first | assumption | omega | exact of_decide_eq_true rfl) ?_
         refine ⟨_, _, (by walk_at "su" : SU _ _ _ _ _), by walk_at "len", ?_⟩
         refine xs_cons ?_
         refine' ex_aug ?l_3 ?u_3 ?_; (case l_3 => walk_at "lk"); (case u_3 => walk_at "und")
         refine ev_cint ?_
         refine in_div (by first | assumption | decide | omega) (by first | assumption | decide | omega) ?_
         walk_at "s6"
         refine' xs_if0 ?_
         refine' ts_eqi_l ?l_4 ?_; (case l_4 => walk_at "lk")
        rw [FL_add]
        generalize figs ++ [rest.fmod 840] = figs at hl2 ⊢
        have hl : (FL figs).length ≤ 1000 := by simp [FL] at hl2 ⊢; omega
        refine ⟨fun h => ?_, fun h => ?_⟩
        · with_reducible
           refine xs_cons ?_
           refine ex_break ?_
           refine' xs_if0 ?_
           refine' ts_cmp_i rfl ?_
           walk_at "s0"
           walk_at "s1"
           refine bl_len_lref (by walk_at "mem") (by walk_at "len") ?_
           refine cmp_gt_int ?_
          refine ⟨fun h => ?_, fun h => ?_⟩
          · with_reducible
             refine xs_cons ?_
             refine ex_break ?_
             refine' xs_ret ?_
             refine ev_list_m ?_
             walk_at "s3"
             refine' es_i ?_
             walk_at "s1"
             walk_at "s17"
             intro
             walk_at "s10"
            exact k _ _ figs mix (by simpa [FL] using hl) m1 m2
          · have h : ¬ (400 : Int) < (FL figs).length := of_decide_eq_false h
            with_reducible
             refine xs_nil ?_
            exact ⟨figs, mix, _, _, _, _, rfl, rfl, by simp [FL] at h; omega, m1, m2, ys, rfl⟩
        · with_reducible
           refine xs_nil ?_
          exact ⟨figs, _, _, rfl, rfl, hl2⟩
end pool
noncomputable def toldP (u : Lf) : PyData := .tuple [.str u.kd, .list [u.item]]
theorem told_lay : ∀ u : Lf, PyData.canLay0 (toldP u) = true
  | .w false _ => by simp only [toldP, PyData.canLay0, PyData.canLayAll0, Bool.and_true, Lf.item]; exact (Lf.kn (.w false 0)).facts.lay
  | .w true _ => by simp only [toldP, PyData.canLay0, PyData.canLayAll0, Bool.and_true, Lf.item]; exact (Lf.kn (.w true 0)).facts.lay
  | .d _ _ => by simp only [toldP, PyData.canLay0, PyData.canLayAll0, Bool.and_true, Lf.item]; exact (Lf.kn (.d 0 0)).facts.lay
  | .c => by decide +kernel
theorem told_shaped (u : Lf) : shaped (toldP u) = true := by
  rw [shaped, told_lay, Bool.true_and]
  refine decide_eq_true ?_
  cases u <;> simp [toldP, Lf.item, PyData.depth, PyData.depthAll]
theorem strs_shaped {l : List Str} (h : okN l) : shaped (.list (l.map .str)) = true := by
  have := depth_strs l
  rw [shaped, show PyData.canLay0 (.list (l.map .str)) = true by rw [PyData.canLay0]; exact lay_strs h, Bool.true_and]
  refine decide_eq_true ?_
  show PyData.depthAll (l.map .str) + 1 ≤ 64
  omega
theorem rD_shaped (r : Option (Option Lf)) : shaped (rD r) = true := by
  rw [shaped, lay_rD, Bool.true_and]
  exact decide_eq_true (Nat.le_trans (dep_rD r) (by decide))
noncomputable def Tr.has (op : Str) : Tr → Bool
  | .leaf _ => false
  | .x => false
  | .un o t _ => o == op || t.has op
  | .bin o a b _ => o == op || a.has op || b.has op
theorem addN_has {op o : Str} {l : List Str} : (addN o l).contains op = (l.contains op || o == op) := by
  unfold addN
  split
  · next h =>
    cases hq : o == op with
    | true => rw [← beq_iff_eq.mp hq, h]; rfl
    | false => rw [Bool.or_false]
  · rw [List.contains_append, List.contains_cons, List.contains_nil, Bool.or_false, BEq.comm]
theorem uses_has {op : Str} : ∀ {t : Tr} {l : List Str}, (uses t l).contains op = (l.contains op || t.has op)
  | .leaf _, l => (Bool.or_false _).symm
  | .x, l => (Bool.or_false _).symm
  | .un o t _, l => by
    show (uses t (addN o l)).contains op = (_ || (o == op || t.has op))
    rw [uses_has (t := t), addN_has, Bool.or_assoc]
  | .bin o a b _, l => by
    show (uses b (uses a (addN o l))).contains op = (_ || (o == op || a.has op || b.has op))
    rw [uses_has (t := b), uses_has (t := a), addN_has, Bool.or_assoc, Bool.or_assoc, Bool.or_assoc]
theorem cont_filter {a op : Str} {ss : List Str} : (ss.filter (· != a)).contains op = (ss.contains op && !(op == a)) := by
  rw [Bool.eq_iff_iff]
  simp [List.mem_filter]
theorem inn_filter {a : Str} {ss : List Str} : ∀ {t : Tr}, t.inn (ss.filter (· != a)) = (t.inn ss && !t.has a)
  | .leaf _ => rfl
  | .x => rfl
  | .un o t _ => by
    show ((ss.filter (· != a)).contains o && t.inn _) = (ss.contains o && t.inn ss && !(o == a || t.has a))
    rw [cont_filter, inn_filter (t := t)]
    cases ss.contains o <;> cases o == a <;> simp
  | .bin o s t _ => by
    show ((ss.filter (· != a)).contains o && s.inn _ && t.inn _) = (ss.contains o && s.inn ss && t.inn ss && !(o == a || s.has a || t.has a))
    rw [cont_filter, inn_filter (t := t), inn_filter (t := s)]
    cases ss.contains o <;> cases o == a <;> cases s.inn ss <;> cases s.has a <;> simp
theorem sf_un {op : Str} (h : op = "-" ∨ op = "!" ∨ op = "(") : SF.contains op = true := by rcases h with rfl | rfl | rfl <;> decide +kernel
theorem sf_bin {op : Str} (h : arN op ∨ cmN op ∨ op = "&" ∨ op = "|") : SF.contains op = true := by
  rcases h with z | z | z
  · rcases z with rfl | rfl | rfl | rfl | rfl | rfl | rfl <;> decide +kernel
  · rcases z with rfl | rfl | rfl | rfl <;> decide +kernel
  · rcases z with rfl | rfl <;> decide +kernel
theorem inn_SF : ∀ {t : Tr} {u : Lf}, t.WF → reck t = some (some u) → t.inn SF = true
  | .leaf u, w, wf, e => rfl
  | .x, w, wf, e => by cases e
  | .un op t tag, w, wf, e => by
    obtain ⟨rt, ert, h1, h2⟩ := reck_un e
    cases hq : (tag || op == "f") with
    | true => cases h1 hq
    | false =>
      obtain ⟨e1, e2⟩ := h2 hq
      cases rt with
      | none => cases e1 rfl
      | some v =>
        show (SF.contains op && t.inn SF) = true
        rw [inn_SF wf.2 ert, Bool.and_true]
        refine sf_un ?_
        rw [Bool.or_eq_false_iff, beq_eq_false_iff_ne] at hq
        rcases wf.1 with h | h | h | h
        · exact .inl h
        · exact .inr (.inl h)
        · exact .inr (.inr h)
        · exact absurd h hq.2
  | .bin op a b tag, w, wf, e => by
    obtain ⟨ra, rb, era, erb, h1, h2⟩ := reck_bin e
    cases tag with
    | true => cases h1 rfl
    | false =>
      obtain ⟨e1, e2, e3⟩ := h2 rfl
      cases ra with
      | none => cases e1 rfl
      | some u => cases rb with
        | none => cases e2 rfl
        | some v =>
          show (SF.contains op && a.inn SF && b.inn SF) = true
          rw [inn_SF wf.2.1 era, inn_SF wf.2.2 erb, sf_bin wf.1]; rfl
noncomputable abbrev LS : List Str := ["-", "*", "/", "^", "%%", "%/%", "==", "!=", "<", "<=", ">", ">=", "&", "|", "!", "("]
theorem LS_eq : LS = SF.filter (· != Str.ofString "+") := by decide +kernel
theorem inn_LS {t : Tr} {u : Lf} (wf : t.WF) (e : reck t = some (some u)) : t.inn LS = !((uses t []).contains "+") := by
  rw [LS_eq, inn_filter, inn_SF wf e, uses_has, Bool.true_and]; rfl
section law
theorem c_law (hK : cx.K = HK P) {xs : List Int} (hx : xs.length ≤ 63) : CalTo cx (r + 20) NoE (.fn "law") [.d (.list (xs.map .int))] [] (fun a _ => a = B true) := by
  refine go1 "script" [("pool", .undef), ("tree", .undef), ("due", .undef), ("value", .undef), ("found", .undef), ("told", .undef), ("names", .undef), ("less", .undef)] [("_law_pool", .fn "_law_pool"), ("_law_tree", .fn "_law_tree"), ("_law_reckoned", .fn "_law_reckoned"), ("_law_value", .fn "_law_value"), ("fold", .fn "fold"), ("safe_names", .fn "safe_names"), ("_law_uses", .fn "_law_uses"), ("fold_uses", .fn "fold_uses"), ("tuple", .cv (.type "tuple"))] rfl hK (fo_law _) (by decide +kernel) (GS.cons (gv_law_pool hK) (GS.cons (gv_law_tree hK) (GS.cons (gv_law_reckoned hK) (GS.cons (gv_law_value hK) (GS.cons (gv_fold hK) (GS.cons (gv_safe_names hK) (GS.cons (gv_law_uses hK) (GS.cons (gv_fold_uses hK) (GS.cons (gvb_tuple hK) GS.nil))))))))) ?_
  conv => arg 6; whnf
  with_reducible
   walk_at "s16"
   walk_at "s0"
   walk_at "s1"
  refine c_law_pool hK hx fun fa pa figs mix hf hm hm' => ?_
  with_reducible
   walk_at "s6"
   walk_at "s16"
   walk_at "s0"
   walk_at "s3"
   refine es_cons (fun _ => rfl) ?_
   refine ev_list_m (es := [.Constant (.int _) _ _]) ?_
   refine' es_i1 ?_
   walk_at "s18"
   intro
   refine' es_i1 ?_
  rename_i sa
  refine c_law_tree hK (m := 4) (d := 0) rfl (r + 16) (by omega) _ _ _ fa pa sa figs 0 mix 10 hf hm hm' fun t idx mix s ht hm hm' => ?_
  have wf := ht.wf
  have h4 : t.ht ≤ 4 := ht.ht
  have hn : t.nn ≤ 31 := by have := ht.nn; omega
  with_reducible
   walk_at "s6"
   walk_at "s16"
   walk_at "s0"
   walk_at "s1"
  refine c_law_reckoned hK t (r + 15) (by omega) h4 _ _ _ wf ?_
  have sh := rD_shaped (reck t)
  have hsk := eqv_rD_skip (reck t)
  generalize hD : rD (reck t) = D at sh hsk ⊢
  with_reducible
   walk_at "s6"
   refine' xs_if0 ?_
   walk_at "s13"
   refine ev_tuple_a ?_
   refine' es_s1 ?_
   walk_at "s18"
   refine ⟨_, TupOf.d rfl, ?_⟩
  refine cmp_eq_data sh (by decide +kernel) ?_
  cases hr : reck t with
  | none =>
    rw [hr] at hsk
    refine ways_t hsk ?_
    with_reducible
     refine' xs_ret ?_
     refine ev_cbool ?_
     walk_at "s10"
    rfl
  | some rv =>
    rw [hr] at hsk hD
    refine ways_f hsk ?_
    with_reducible
     walk_at "s16"
     walk_at "s0"
     walk_at "s1"
    refine c_law_value hK t (r + 17) (by omega) _ _ _ wf ?_
    have hv : VT t ≠ .undef := VTne
    with_reducible
     walk_at "s6"
     refine xs_cons ?_
     refine ex_unpack2 (fun _ => rfl) (fun _ => rfl) ?_
     walk_at "s0"
     walk_at "s3"
     walk_at "s19"
     refine ev_call0 ?_
     refine' ev_global ?h_1 ?_; (case h_1 => walk_at "lk")
     apply c_safe_names; iterate 1 walk_at "side"
    refine c_fold hK (ss := SF) (by decide +kernel) (by decide +kernel) (by decide +kernel) t wf h4 (r + 7) (by omega) _ _ _ rv hr (fun w ew hi => ?_) fun hn => ?_
    · subst ew
      obtain rfl : D = .tuple [.str w.kd, w.item] := hD.symm
      have okn : okN (uses t []) := uses_okN wf fun _ m => nomatch m
      have lenu : (uses t []).length ≤ 900 := by have := uses_len (t := t) (l := []); simp at this; omega
      with_reducible
       refine ⟨_, _, .tup rfl, ?_⟩
       walk_at "s6"
       walk_at "s6"
       refine' xs_if0 ?_
       walk_at "s13"
       refine ev_cmp rfl ?_
       walk_at "s5"
       refine ev_cnone ?_
       refine' cmp_isnot_none ?hf_2 ?_; (case hf_2 => walk_at "nfn")
       refine cmp_ne_data rfl rfl ?_
       refine ways_f rfl ?_
       refine' xs_if0 ?_
       refine ts_not ?_
       refine' ts_l ?l_3 ?u_3 ?_; (case l_3 => walk_at "lk"); (case u_3 => walk_at "und")
       refine tru_bool ?_
       walk_at "s9"
       walk_at "s16"
       refine ev_freeze (ev_call (x := "_law_uses") (fun _ => rfl) (fun _ => rfl) ?_)
       refine' ev_global ?h_4 ?_; (case h_4 => walk_at "lk")
       walk_at "s3"
       walk_at "s19"
       refine ev_list_m (es := []) ?_
       refine es_nil ?_
       walk_at "s18"
       intro
      refine c_law_uses hK t (r + 18) (by omega) _ _ [] _ _ wf (fun _ m => nomatch m) (by simp; omega) ?_
      refine ⟨_, _, _, _, rfl, .head, unD_map _, ?_⟩
      with_reducible
       walk_at "s6"
       refine' xs_if0 ?_
       refine ts_bool ?_
       refine bs_or ?_
       refine ts_cmp rfl ?_
       refine ev_tuple_a ?_
       refine es_cons (fun _ => rfl) ?_
       walk_at "s8"
       refine attr_vec_kind (aV_kind (by assumption)) ?_
       walk_at "s19"
       walk_at "s8"
       refine attr_vec_items (aV_items (by assumption)) ?_
       walk_at "s17"
       refine ⟨_, TupOf.d rfl, ?_⟩
       refine ev_tuple_a ?_
       refine es_cons (fun _ => rfl) ?_
       walk_at "s2"
       walk_at "s7"
       walk_at "s19"
       refine ev_list_a ?_
       walk_at "s19"
       walk_at "s2"
       walk_at "s7"
       walk_at "s17"
       refine ⟨_, LstOf.d rfl, ?_⟩
       walk_at "s17"
       refine ⟨_, TupOf.d rfl, ?_⟩
      refine cmp_ne_data (told_shaped _) (told_shaped _) ?_
      refine ways_f (by show (!PyData.eqv (toldP w) (toldP w)) = false; rw [eqv_refl _ (told_lay w)]; rfl) ?_
      with_reducible
       refine bs_or ?_
       refine ts_cmp rfl ?_
       walk_at "s0"
       walk_at "s1"
      refine c_fold_uses hK wf (by omega) ?_
      with_reducible
       walk_at "s5"
       refine cmp_ne_data (strs_shaped (by assumption)) (strs_shaped (by assumption)) ?_
      refine ways_f (by rw [eqv_refl _ (Bool.and_eq_true_iff.mp (strs_shaped okn)).1]; rfl) ?_
      with_reducible
       refine bs_or_nil ?_
       walk_at "s9"
       refine xs_cons ?_
      refine' ex_comp_d (cap := []) (gl' := []) rfl (fun _ _ => rfl) ?hok (Caps.nil) (GS.nil) ?hy ?hl ?hnl ?_
      case hok => kernel_rfl
      case hy => rfl
      case hl => rfl
      case hnl => decide +kernel
      with_reducible
       refine ie_seq ?_
       refine ev_call0 ?_
       refine' ev_global ?h_5 ?_; (case h_5 => walk_at "lk")
       apply c_safe_names; iterate 1 walk_at "side"
       refine ⟨_, _, .dt rfl, .inl rfl, ?_⟩
       walk_at "s18"
      refine cp_cons_if ?_
      with_reducible
       walk_at "s13"
       refine ev_cstr ?_
       refine cmp_ne_str ?_
       walk_at "s9"
      refine cp_cons_if ?_
      with_reducible
       walk_at "s13"
       refine ev_cstr ?_
       refine cmp_ne_str ?_
       walk_at "s14"
       walk_at "s5"
      refine cp_cons_if ?_
      with_reducible
       walk_at "s13"
       refine ev_cstr ?_
       refine cmp_ne_str ?_
       walk_at "s14"
       walk_at "s5"
      refine cp_cons_if ?_
      with_reducible
       walk_at "s13"
       refine ev_cstr ?_
       refine cmp_ne_str ?_
       walk_at "s14"
       walk_at "s5"
      refine cp_cons_if ?_
      with_reducible
       walk_at "s13"
       refine ev_cstr ?_
       refine cmp_ne_str ?_
       walk_at "s14"
       walk_at "s5"
      refine cp_cons_if ?_
      with_reducible
       walk_at "s13"
       refine ev_cstr ?_
       refine cmp_ne_str ?_
       walk_at "s14"
       walk_at "s5"
      refine cp_cons_if ?_
      with_reducible
       walk_at "s13"
       refine ev_cstr ?_
       refine cmp_ne_str ?_
       walk_at "s14"
       walk_at "s5"
      refine cp_cons_if ?_
      with_reducible
       walk_at "s13"
       refine ev_cstr ?_
       refine cmp_ne_str ?_
       walk_at "s14"
       walk_at "s5"
      refine cp_cons_if ?_
      with_reducible
       walk_at "s13"
       refine ev_cstr ?_
       refine cmp_ne_str ?_
       walk_at "s14"
       walk_at "s5"
      refine cp_cons_if ?_
      with_reducible
       walk_at "s13"
       refine ev_cstr ?_
       refine cmp_ne_str ?_
       walk_at "s14"
       walk_at "s5"
      refine cp_cons_if ?_
      with_reducible
       walk_at "s13"
       refine ev_cstr ?_
       refine cmp_ne_str ?_
       walk_at "s14"
       walk_at "s5"
      refine cp_cons_if ?_
      with_reducible
       walk_at "s13"
       refine ev_cstr ?_
       refine cmp_ne_str ?_
       walk_at "s14"
       walk_at "s5"
      refine cp_cons_if ?_
      with_reducible
       walk_at "s13"
       refine ev_cstr ?_
       refine cmp_ne_str ?_
       walk_at "s14"
       walk_at "s5"
      refine cp_cons_if ?_
      with_reducible
       walk_at "s13"
       refine ev_cstr ?_
       refine cmp_ne_str ?_
       walk_at "s14"
       walk_at "s5"
      refine cp_cons_if ?_
      with_reducible
       walk_at "s13"
       refine ev_cstr ?_
       refine cmp_ne_str ?_
       walk_at "s14"
       walk_at "s5"
      refine cp_cons_if ?_
      with_reducible
       walk_at "s13"
       refine ev_cstr ?_
       refine cmp_ne_str ?_
       walk_at "s14"
       walk_at "s5"
      refine cp_cons_if ?_
      with_reducible
       walk_at "s13"
       refine ev_cstr ?_
       refine cmp_ne_str ?_
       walk_at "s14"
       walk_at "s5"
      refine cp_nil ?_
      with_reducible
       refine ⟨_, rfl, ?_⟩
       walk_at "s6"
       refine' xs_ret ?_
       refine ev_cmp rfl ?_
       refine ev_sub (fun _ _ => ⟨_, rfl⟩) ?_
       walk_at "s0"
       walk_at "s3"
       walk_at "s19"
       walk_at "s0"
       walk_at "s1"
       refine bl_tuple_d (by exact Nat.le_of_ble_eq_true rfl) ?_
      refine c_fold hK (ss := LS) (by decide +kernel) (by decide +kernel) (by decide +kernel) t wf h4 (r + 7) (by omega) _ _ _ _ hr (fun w' ew hi => ?_) fun hn => ?_
      · have hc : (uses t []).contains "+" = false := by rw [inn_LS wf hr] at hi; simpa using hi
        with_reducible
         refine ev_cint ?_
         refine' it_tup ?h_6 ?_; (case h_6 => with_unfolding_all exact rfl)
         refine ev_cmp rfl ?_
         refine ev_cstr ?_
         walk_at "s5"
        refine cmp_in (T := "") (lay_strs okn) (by decide +kernel) (Nat.le_trans (depth_strs _) (by decide)) (.inr rfl) (.inr rfl) ?_
        simp only [any_str, hc]
        with_reducible
         refine cmp_eq_data rfl rfl ?_
         walk_at "s10"
        rfl
      · have hc : (uses t []).contains "+" = true := by
          rcases hn with z | z
          · cases z
          · rw [inn_LS wf hr] at z; simpa using z
        with_reducible
         refine ev_cint ?_
         walk_at "s7"
         refine ev_cmp rfl ?_
         refine ev_cstr ?_
         walk_at "s5"
        refine cmp_in (T := "") (lay_strs okn) (by decide +kernel) (Nat.le_trans (depth_strs _) (by decide)) (.inr rfl) (.inr rfl) ?_
        simp only [any_str, hc]
        with_reducible
         refine cmp_eq_data rfl rfl ?_
         walk_at "s10"
        rfl
    · have hn : rv = none := by
        cases rv with
        | none => rfl
        | some u => exact hn.elim (fun z => nomatch z) fun z => by rw [inn_SF wf hr] at z; cases z
      subst hn
      obtain rfl : D = .none := hD.symm
      with_reducible
       refine ⟨_, _, .dt rfl, ?_⟩
       walk_at "s6"
       walk_at "s6"
       refine' xs_if0 ?_
       walk_at "s13"
       refine ev_cmp rfl ?_
       walk_at "s5"
       refine ev_cnone ?_
       refine' cmp_isnot_none ?hf_7 ?_; (case hf_7 => walk_at "nfn")
       refine cmp_ne_data rfl rfl ?_
       walk_at "s9"
       refine' xs_if0 ?_
       refine ts_not ?_
       refine' ts_l ?l_8 ?u_8 ?_; (case l_8 => walk_at "lk"); (case u_8 => walk_at "und")
       refine tru_bool ?_
       walk_at "s14"
       refine' xs_ret ?_
       refine ev_cmp rfl ?_
       walk_at "s5"
       refine ev_cnone ?_
       refine' cmp_is_none ?hf_9 ?_; (case hf_9 => walk_at "nfn")
       walk_at "s10"
      rfl
end law
end Mine
end
section
open PySem PySem.W PySem.Spec PySem.Calls PyProof.Rows
set_option Elab.async false
set_option maxRecDepth 100000
namespace Mine
theorem pys_ints : ∀ ns : List Int, ofPys (ns.map PyData.int) = ns.map WData.int
  | [] => by simp [ofPys]
  | n :: ns => by simp only [List.map_cons, ofPys, ofPy, pys_ints ns]
theorem law_run {prog : Program} {w : World} {s₁ : Shared} {mg mb : Str → Option Value} {p : Program} {loose : List Str} {fa : Addr} (T : TopRead p loose mg mb s₁.heap) (Y : (HK w.params).In s₁.heap) (hmg : mg (Str.ofString "law") = some (.ref fa))
    {xs : List Int} (hx : xs.length ≤ 63) {v : Value} {as : List Addr} (rd : Reads s₁.heap v (.list (xs.map .int)) as) {Q : Value → Shared → Prop} {E : Value → Shared → Prop}
    (q : ∀ s', (∀ b o, s₁.heap.get? b = some o → s'.heap.get? b = some o) → s'.gens = s₁.gens → s'.os = s₁.os → Q (.bool true) s') : wpAny (model prog w) callerA (call (.ref fa) [v]) Q E s₁ := by
  have C := c_law (cx := ⟨prog, w, HK w.params, p, loose, mg, mb, s₁, Y, T⟩) (P := w.params) rfl (r := 0) hx
  have hf : VR ⟨prog, w, HK w.params, p, loose, mg, mb, s₁, Y, T⟩ ⟨s₁.heap, fun _ => none⟩ (.fn "law") (.ref fa) := by
    have e := mg_of Y T.g (ns_law w.params)
    rw [hmg] at e
    cases e
    exact .fn (ns_law w.params)
  refine C.run callerA (fun _ => none) ⟨s₁.heap, fun _ => none⟩ s₁ (.ref fa) [v] Q E ⟨by decide, by decide⟩ ⟨rfl, [], rfl, fun _ h => (nomatch h)⟩ ?_ hf (.cons (.d rd) .nil) (fun g' σ' s' av u k L J vr => ?_) (fun _ _ _ _ ke => ke.elim)
  · exact ⟨fun _ _ e => e, fun _ _ e => e, fun _ _ e => (nomatch e), fun _ h => (nomatch h), List.nodup_nil, fun _ _ _ e => (nomatch e), rfl, rfl, rfl⟩
  · subst k
    obtain rfl := bool_of vr
    exact q s' (fun b o e => J.zle b o (J.base b o e)) J.gens J.os
theorem arg_ints {h : Heap} {cl : Str → Option Addr} {args : List WData} {vals : List Value} {as : List Addr} (hpre : PySem.Challenge.rw_nz0521_01.row.claim.pre args = true) (hrd : ReadsAllW PySem.Challenge.rw_nz0521_01.row.records cl h vals args as) :
    ∃ (xs : List Int) (v : Value) (as : List Addr), xs.length ≤ 63 ∧ vals = [v] ∧ Reads h v (.list (xs.map .int)) as ∧ args = [.list (xs.map .int)] := by
  obtain ⟨h1, h2⟩ := pre_splitW hpre
  obtain ⟨d, r, rfl, h3, h4⟩ := hasAllW_cons h1
  obtain rfl := hasAllW_nil h4
  obtain ⟨ds, rfl, h5⟩ := hasW_list h3
  obtain ⟨ns, rfl⟩ := items_int h5
  cases hrd with
  | cons a b =>
    cases b
    refine ⟨ns, _, _, ?_, rfl, reads_of_readsW (.list (ns.map .int)) (by rw [ofPy, pys_ints]; exact a), rfl⟩
    have h2 : WTm.holds [] (.and (.not (.lt (.lit (.int 63)) (.len (.arg 0)))) (.lit (.bool true))) { args := [.list (ns.map .int)] } = true := h2
    refine Nat.le_of_not_lt fun hl => ?_
    have hl : (63 : Int) < (ns.length : Nat) := by omega
    simp [WTm.holds, WTm.value, PySem.W.less?, PySem.W.Num.less?, hl] at h2
theorem post_ok {args : List WData} : PySem.Challenge.rw_nz0521_01.row.claim.post args (.bool true) args = true := by
  show (WShape.has [] (.bool true) .bool && WTm.holds [] (.eq .res (.lit (.bool true))) { args := args, res := some (.bool true), after := args }) = true
  simp [WShape.has, WShape.arms, WTm.holds, WTm.value, PySem.W.same]
end Mine
end
section
open PySem PySem.W PySem.Spec PySem.Calls PyProof.Rows
set_option Elab.async false
set_option maxRecDepth 100000
namespace Mine
theorem left_ok : LeftO PW QV LN (fun s => xlAt QV [] s && recOk [] s) (fun s => HA.map s.heap.get?) (fun w => (HK w.params).map fun x => some x.2) 8818 true :=
  left_whole (boot_open (by kernel_rfl) (by kernel_rfl) fun s => by kernel_rfl) (fun P => by kernel_rfl) (by kernel_rfl) fun w os => by
    rw [PySem.W.Fast.wholeQ_eq]; exact whole_ok w os
theorem HA_ok (P : Params) : HA = (HK P).map (·.1) := by kernel_rfl
end Mine
set_option maxHeartbeats 4000000 in
theorem PySem.Challenge.cw_nz0521_01_holds : PySem.Challenge.rw_nz0521_01.Holds := by
  w_on
  refine holds_law ?wf fun said => ?_
  case wf => exact Mine.well_said
  refine PySem.W.holds_open (r := PySem.Challenge.rw_nz0521_01.row) (q := Mine.QV) (loose := Mine.LN) (Xt := fun s => xlAt Mine.QV [] s && recOk [] s) (XP := XL Mine.QV []) (Yf := fun s => Mine.HA.map s.heap.get?) (Ya := fun w => (Mine.HK w.params).map fun x : Addr × Obj => some x.2) (YP := fun w h => (Mine.HK w.params).In h) (N := 8818) (d := ⟨Str.ofString "law", Mine.sArgs (Mine.stm 122), Mine.sBody (Mine.stm 122), Mine.sScope (Mine.stm 122), Mine.sPos (Mine.stm 122)⟩) (kwd := []) Mine.left_ok
    (fun w s e => Frag.in_of (Mine.HA_ok _) e) (fun w h h' x k => Frag.In.keeps x k) (fun s e => xl_of s (Bool.and_eq_true_iff.mp e).1) XL.keeps ?h1 ?h2 ?h3 (fun s e => recFacts_of (Bool.and_eq_true_iff.mp e).2) ?h4 said ?h5 ?h6 ?hw ?hc
  case h1 => kernel_rfl
  case h2 => kernel_rfl
  case h3 => kernel_rfl
  case h4 => rfl
  case h5 => kernel_rfl
  case h6 => exact ⟨rfl, rfl, rfl, rfl, rfl, by decide +kernel⟩
  case hw => exact ⟨[.list []], by decide +kernel, by decide +kernel⟩
  case hc =>
    intro w s₀ s₁ mg mb G Y fa o pm cd doc dV kV ho hd hcd hD hmg hg args vals as hpre hlay hrd hwl hlo
    obtain ⟨xs, v, as', hx, rfl, rd, rfl⟩ := Mine.arg_ints hpre hrd
    exact Mine.law_run (topRead_of G.T) Y hmg hx rd fun s' k e1 e2 => ⟨.inl ⟨_, .bool true, [], rfl, fun _ => rfl, .bool true, Mine.post_ok, fun _ => ⟨List.nodup_nil, fun _ h => (nomatch h)⟩⟩, .of_keep k, e2, .of_eq (e1.trans hg)⟩
end
