import PyProof.Rows.All
import Wide.All
import OpenK.AllK
import Wide.FinOn
import PySem.Challenge.RW_ot0038_01
set_option Elab.async false
set_option linter.unusedVariables false
set_option linter.defProp false
set_option maxRecDepth 100000
set_option maxHeartbeats 8000000
set_option compiler.extract_closed false
namespace Mine.O
open PySem PySem.W PyProof.Rows
section
noncomputable abbrev pw : Program := PySem.Challenge.pw_ot0038_01
noncomputable def EX : List Stmt -> Nat -> Stmt
 | [], _ => default
 | s :: _, 0 => s
 | _ :: r, n + 1 => EX r n
noncomputable def t (i : Nat) : Stmt := EX pw.main.body i
noncomputable def sub : Stmt -> Nat -> Stmt
 | .ClassDef _ _ _ b .., j => EX b j
 | _, _ => default
noncomputable def u (i j : Nat) : Stmt := sub (t i) j
noncomputable def fd (q : String) (g : Addr) (d m : Value) (c : Value) : Stmt -> FuncData
 | .FunctionDef n a b _ _ _ sc _ _ _ => ⟨n, .ofString q, a, .stmts b, sc, g, [], d, .none, .none, m, none, c, .none, 0⟩
 | _ => default
noncomputable abbrev s (x : String) (n : Nat) : Value := .str (.ofString x) n
noncomputable abbrev i (n : Int) : Value := .int n 0
noncomputable abbrev r (n : Nat) : Value := .ref n
noncomputable abbrev tu (l : List Value) : Obj := ⟨.type "tuple", none, .seq l.toArray 0, #[]⟩
noncomputable abbrev fl (l : List Value) : Obj := ⟨.none, none, .fields l.toArray, #[]⟩
noncomputable abbrev co (l : List Value) : Obj := ⟨.type "code", none, .fields l.toArray, #[]⟩
noncomputable abbrev fi (c : String) (l : List Value) : Obj := ⟨.type c, none, .fields l.toArray, #[]⟩
noncomputable abbrev e (P : Params) (x : String) (n : Nat) (v : Value) : DictEntry := ⟨PyData.keyHash P (.ofString x), s x n, v⟩
noncomputable abbrev di (c : Value) (l : List DictEntry) (n : Nat) : Obj := ⟨c, none, .dict l.toArray n, #[]⟩
noncomputable abbrev fn (q : String) (d m : Value) (c : Nat) (st : Stmt) : Obj := ⟨.type "function", none, .func (fd q 3 d m (.ref c) st), #[]⟩
noncomputable abbrev f0 (q : String) (st : Stmt) : Obj := ⟨.none, none, .func (fd q 0 .none .none .none st), #[]⟩
noncomputable def es (P : Params) : List DictEntry := [e P "__name__" 165 (s "law_ot0038_01" 977), e P "__doc__" 166 .none, e P "__package__" 167 .none, e P "__loader__" 168 (.builtin "__main__.__loader__#opaque"), e P "__spec__" 169 .none, e P "__annotations__" 170 (r 6), e P "__builtins__" 171 (r 4), e P "__file__" 173 (s "/claim/cut.py" 172), e P "__cached__" 174 .none, e P "_wall" 193 (r 21), e P "LendError" 227 (r 39), e P "TraitFault" 243 (r 52), e P "head_pairs" 255 (r 61), e P "could_be" 269 (r 68), e P "match_type" 285 (r 75), e P "match_all" 299 (r 82), e P "MOST_DEEP" 303 (.int 12 302), e P "last_name" 310 (r 89), e P "names_of" 316 (r 94), e P "matches_impl" 327 (r 101), e P "is_plainly_copy" 334 (r 108), e P "Selection" 404 (r 149), e P "select" 418 (r 160), e P "DROP_types" 422 (s "Drop" 421), e P "parts_of" 430 (r 167), e P "rebuilt" 439 (r 174), e P "substituted" 445 (r 179), e P "with_regions" 451 (r 184), e P "no_region" 458 (r 191), e P "erased" 465 (r 198), e P "region_text" 472 (r 205), e P "type_text" 478 (r 210), e P "matched" 491 (r 217), e P "field_rows" 500 (r 224), e P "fields_of" 506 (r 229), e P "has_drop" 515 (r 236), e P "needs_drop" 521 (r 241), e P "DROP_generics" 525 (s "Drop" 524), e P "key_of" 531 (r 246), e P "param_names" 537 (r 251), e P "substitution_of" 547 (r 258), e P "closed_ref" 553 (r 263), e P "resolved_ref" 559 (r 268), e P "drop_impl" 568 (r 275), e P "Body" 656 (r 336), e P "field_type" 666 (r 347), e P "projected" 677 (r 354), e P "place_type" 689 (r 361), e P "MOST_INSTANCES" 693 (.int 400 692), e P "MOST_PARTS" 695 (.int 120 694), e P "plain_type" 703 (r 368), e P "plain_operand" 711 (r 375), e P "plain_operands" 717 (r 380), e P "plain_rvalue" 726 (r 387), e P "plain_statement" 734 (r 394), e P "want_small" 743 (r 401), e P "Instances" 826 (r 449), e P "inner_types" 832 (r 458), e P "instances" 842 (r 465), e P "Adt" 886 (r 484), e P "Sig" 929 (r 505), e P "World" 976 (r 534), e P "_law_pool" 989 (r 545), e P "_law_take" 998 (r 552), e P "_law_one" 1006 (r 559), e P "_law_int" 1009 (r 560), e P "_law_bool" 1011 (r 561), e P "_law_unit" 1013 (r 563), e P "_law_struct" 1021 (r 570), e P "_law_text" 1027 (r 575), e P "_law_key" 1033 (r 580), e P "_law_closed" 1039 (r 585), e P "_law_has_box" 1045 (r 590), e P "_law_drawn_type" 1055 (r 597), e P "_law_locals" 1061 (r 602), e P "_law_rows" 1067 (r 607), e P "_law_bodies" 1073 (r 612), e P "_law_main" 1079 (r 617), e P "_law_world" 1085 (r 622), e P "_law_body_right" 1091 (r 627), e P "_law_is_refused" 1099 (r 634), e P "_law_refusals_right" 1105 (r 639), e P "law" 1111 (r 644)]
noncomputable def g (P : Params) (k m : Nat) (x : String) (n : Nat) : Obj := di (.type "dict") (((es P).take 9).set 0 (e P "__name__" 165 (s x n)) ++ ((es P).drop 9).take k) m
noncomputable def tb : List Value := [i 1, i 0, r 20, i 5, i 0, r 27, i 11, i 0, r 48, i 14, i 0, r 60, i 32, i 0, r 67, i 52, i 0, r 74, i 73, i 0, r 81, i 85, i 0, r 88, i 87, i 0, r 93, i 89, i 0, r 100, i 95, i 0, r 107, i 101, i 0, r 114, i 148, i 0, r 159, i 163, i 0, r 166, i 172, i 0, r 173, i 183, i 0, r 178, i 187, i 0, r 183, i 193, i 0, r 190, i 195, i 0, r 197, i 197, i 0, r 204, i 201, i 0, r 209, i 223, i 0, r 216, i 242, i 0, r 223, i 244, i 0, r 228, i 256, i 0, r 235, i 261, i 0, r 240, i 279, i 0, r 245, i 283, i 0, r 250, i 285, i 0, r 257, i 290, i 0, r 262, i 295, i 0, r 267, i 312, i 0, r 274, i 320, i 0, r 281, i 346, i 0, r 346, i 352, i 0, r 353, i 363, i 0, r 360, i 371, i 0, r 367, i 373, i 0, r 374, i 377, i 0, r 379, i 379, i 0, r 386, i 396, i 0, r 393, i 402, i 0, r 400, i 409, i 0, r 407, i 474, i 0, r 457, i 487, i 0, r 464, i 493, i 0, r 471, i 503, i 0, r 494, i 514, i 0, r 515, i 529, i 0, r 544, i 536, i 0, r 551, i 543, i 0, r 558, i 548, i 0, r 569, i 550, i 0, r 574, i 561, i 0, r 579, i 563, i 0, r 584, i 572, i 0, r 589, i 576, i 0, r 596, i 588, i 0, r 601, i 592, i 0, r 606, i 604, i 0, r 611, i 617, i 0, r 616, i 620, i 0, r 621, i 628, i 0, r 626, i 643, i 0, r 633, i 649, i 0, r 638, i 656, i 0, r 643]
noncomputable def IT : Obj := ⟨.type "type", none, .cls ⟨"LendError", [.type "Exception"], [r 39, .type "Exception", .type "BaseException", .type "object"], 38, "LendError", true, [], [], false, none, false⟩, #[some (r 22), none, some (s "LendError" 196), some (s "LendError" 204), some (.builtin "Exception.__new__"), some (.bool true)]⟩
noncomputable def K (P : Params) : Frag := [(2, di .none [e P "type.__subclasses__.Exception.0" 224 (i 39), e P "type.__subclasses__.Exception.n" 225 (i 1)] 2), (3, g P 74 83 "law_ot0038_01" 977), (15, tu []), (17, tu [s "k" 190]), (18, tu []), (20, co [s "_wall" 187, s "_wall" 188, s "/claim/cut.py" 189, i 1, i 1, i 0, i 0, i 3, r 15, .bool true, i 181, r 16, .none, r 17, r 18, r 19, i 191, i 1, s "/claim/cut.py" 192]), (21, fn "_wall" .none (s "__main__" 164) 20 (t 0)), (22, tu [.type "Exception"]), (29, tu [.int 0 208]), (30, tu []), (32, tu [s "self" 212, s "message" 213, s "spot" 214]), (33, tu []), (35, co [s "__init__" 209, s "LendError.__init__" 210, s "/claim/cut.py" 211, i 7, i 3, i 0, i 0, i 3, r 30, .bool true, i 181, r 31, .none, r 32, r 33, r 34, i 215, i 7, s "/claim/cut.py" 216]), (36, fn "LendError.__init__" (r 29) (s "lendcore.errors" 194) 35 (u 2 0)), (37, tu [s "message" 218, s "spot" 219]), (38, di (.type "dict") [e P "__module__" 203 (s "lendcore.errors" 194), e P "__firstlineno__" 207 (.int 5 206), e P "__init__" 217 (r 36), e P "__static_attributes__" 220 (r 37), e P "__weakref__" 222 (r 40), e P "__doc__" 223 .none] 3), (39, ⟨.type "type", none, .cls ⟨"LendError", [.type "Exception"], [r 39, .type "Exception", .type "BaseException", .type "object"], 38, "LendError", true, [], [r 52], false, none, false⟩, #[some (r 22), none, some (s "LendError" 196), some (s "LendError" 204), some (.builtin "Exception.__new__"), some (.bool true)]⟩), (40, fi "getset_descriptor" [s "__weakref__" 221, r 39, .builtin "ExceptionGroup.__weakref__", .none]), (43, tu [r 39]), (50, tu []), (51, di (.type "dict") [e P "__module__" 235 (s "lendcore.errors" 194), e P "__firstlineno__" 239 (.int 11 238), e P "__static_attributes__" 240 (r 50), e P "__doc__" 241 .none] 2), (52, ⟨.type "type", none, .cls ⟨"TraitFault", [r 39], [r 52, r 39, .type "Exception", .type "BaseException", .type "object"], 51, "TraitFault", true, [], [], false, none, false⟩, #[some (r 43), none, some (s "TraitFault" 228), some (s "TraitFault" 236), some (.builtin "Exception.__new__"), some (.bool true)]⟩), (55, tu []), (57, tu [s "one" 249, s "other" 250, s "kind" 251, s "alike" 252]), (58, tu []), (60, co [s "head_pairs" 246, s "head_pairs" 247, s "/claim/cut.py" 248, i 14, i 2, i 0, i 0, i 3, r 55, .bool true, i 181, r 56, .none, r 57, r 58, r 59, i 253, i 14, s "/claim/cut.py" 254]), (61, fn "head_pairs" .none (s "lendcore.type_heads" 244) 60 (t 5)), (62, tu []), (64, tu [s "one" 259, s "other" 260, s "answer" 261, s "left" 262, s "here" 263, s "there" 264, s "kinds" 265, s "pairs" 266]), (65, tu []), (67, co [s "could_be" 256, s "could_be" 257, s "/claim/cut.py" 258, i 32, i 2, i 0, i 0, i 3, r 62, .bool true, i 181, r 63, .none, r 64, r 65, r 66, i 267, i 32, s "/claim/cut.py" 268]), (68, fn "could_be" .none (s "lendcore.type_heads" 244) 67 (t 6)), (69, tu []), (71, tu [s "pattern" 273, s "subject" 274, s "names" 275, s "found" 276, s "answer" 277, s "left" 278, s "here" 279, s "there" 280, s "told" 281, s "pairs" 282]), (72, tu []), (74, co [s "match_type" 270, s "match_type" 271, s "/claim/cut.py" 272, i 52, i 4, i 0, i 0, i 3, r 69, .bool true, i 181, r 70, .none, r 71, r 72, r 73, i 283, i 52, s "/claim/cut.py" 284]), (75, fn "match_type" .none (s "lendcore.type_heads" 244) 74 (t 7)), (76, tu []), (78, tu [s "patterns" 289, s "subjects" 290, s "names" 291, s "found" 292, s "answer" 293, s "pattern" 294, s "subject" 295, s "told" 296]), (79, tu []), (81, co [s "match_all" 286, s "match_all" 287, s "/claim/cut.py" 288, i 73, i 4, i 0, i 0, i 3, r 76, .bool true, i 181, r 77, .none, r 78, r 79, r 80, i 297, i 73, s "/claim/cut.py" 298]), (82, fn "match_all" .none (s "lendcore.type_heads" 244) 81 (t 8)), (83, tu []), (85, tu [s "path" 307]), (86, tu []), (88, co [s "last_name" 304, s "last_name" 305, s "/claim/cut.py" 306, i 85, i 1, i 0, i 0, i 3, r 83, .bool true, i 181, r 84, .none, r 85, r 86, r 87, i 308, i 85, s "/claim/cut.py" 309]), (89, fn "last_name" .none (s "lendcore.traits" 300) 88 (t 11)), (90, tu []), (93, co [s "names_of" 311, s "names_of" 312, s "/claim/cut.py" 313, i 87, i 1, i 0, i 0, i 3, r 90, .bool true, i 181, r 91, .none, .none, .none, r 92, i 314, i 87, s "/claim/cut.py" 315]), (94, fn "names_of" .none (s "lendcore.traits" 300) 93 (t 12)), (95, tu []), (97, tu [s "impl" 320, s "trait_args" 321, s "T" 322, s "found" 323, s "patterns" 324]), (98, tu []), (100, co [s "matches_impl" 317, s "matches_impl" 318, s "/claim/cut.py" 319, i 89, i 3, i 0, i 0, i 3, r 95, .bool true, i 181, r 96, .none, r 97, r 98, r 99, i 325, i 89, s "/claim/cut.py" 326]), (101, fn "matches_impl" .none (s "lendcore.traits" 300) 100 (t 13)), (102, tu []), (104, tu [s "T" 331]), (105, tu []), (107, co [s "is_plainly_copy" 328, s "is_plainly_copy" 329, s "/claim/cut.py" 330, i 95, i 1, i 0, i 0, i 3, r 102, .bool true, i 181, r 103, .none, r 104, r 105, r 106, i 332, i 95, s "/claim/cut.py" 333]), (108, fn "is_plainly_copy" .none (s "lendcore.traits" 300) 107 (t 14)), (116, tu []), (118, tu [s "self" 350, s "world" 351, s "bounds" 352]), (119, tu []), (121, co [s "__init__" 347, s "Selection.__init__" 348, s "/claim/cut.py" 349, i 103, i 3, i 0, i 0, i 3, r 116, .bool true, i 181, r 117, .none, r 118, r 119, r 120, i 353, i 103, s "/claim/cut.py" 354]), (122, fn "Selection.__init__" .none (s "lendcore.traits" 300) 121 (u 15 0)), (123, tu []), (125, tu [s "self" 359, s "trait" 360, s "T" 361]), (126, tu []), (128, co [s "bound_of" 356, s "Selection.bound_of" 357, s "/claim/cut.py" 358, i 107, i 3, i 0, i 0, i 3, r 123, .bool true, i 181, r 124, .none, r 125, r 126, r 127, i 362, i 107, s "/claim/cut.py" 363]), (129, fn "Selection.bound_of" .none (s "lendcore.traits" 300) 128 (u 15 1)), (130, tu []), (133, co [s "needs_of" 365, s "Selection.needs_of" 366, s "/claim/cut.py" 367, i 112, i 3, i 0, i 0, i 3, r 130, .bool true, i 181, r 131, .none, .none, .none, r 132, i 368, i 112, s "/claim/cut.py" 369]), (134, fn "Selection.needs_of" .none (s "lendcore.traits" 300) 133 (u 15 2)), (135, tu []), (137, tu [s "self" 374, s "trait" 375, s "args" 376, s "T" 377, s "deep" 378, s "rows" 379, s "impl" 380, s "answer" 381, s "found" 382, s "other" 383, s "part" 384, s "told" 385]), (138, tu []), (140, co [s "candidates" 371, s "Selection.candidates" 372, s "/claim/cut.py" 373, i 119, i 5, i 0, i 0, i 3, r 135, .bool true, i 181, r 136, .none, r 137, r 138, r 139, i 386, i 119, s "/claim/cut.py" 387]), (141, fn "Selection.candidates" .none (s "lendcore.traits" 300) 140 (u 15 3)), (142, tu []), (145, co [s "asked" 389, s "Selection.asked" 390, s "/claim/cut.py" 391, i 133, i 5, i 0, i 0, i 3, r 142, .bool true, i 181, r 143, .none, .none, .none, r 144, i 392, i 133, s "/claim/cut.py" 393]), (146, fn "Selection.asked" .none (s "lendcore.traits" 300) 145 (u 15 4)), (147, tu [s "bounds" 395, s "world" 396]), (148, di (.type "dict") [e P "__module__" 342 (s "lendcore.traits" 300), e P "__firstlineno__" 346 (.int 101 345), e P "__init__" 355 (r 122), e P "bound_of" 364 (r 129), e P "needs_of" 370 (r 134), e P "candidates" 388 (r 141), e P "asked" 394 (r 146), e P "__static_attributes__" 397 (r 147), e P "__dict__" 399 (r 150), e P "__weakref__" 401 (r 151), e P "__doc__" 402 .none] 4), (149, ⟨.type "type", none, .cls ⟨"Selection", [.type "object"], [r 149, .type "object"], 148, "Selection", true, [], [], false, none, false⟩, #[none, none, some (s "Selection" 335), some (s "Selection" 343), some (.builtin "object.__new__"), some (.bool true)]⟩), (150, fi "getset_descriptor" [s "__dict__" 398, r 149, .builtin "function.__dict__", .builtin "function.__dict__#set"]), (151, fi "getset_descriptor" [s "__weakref__" 400, r 149, .builtin "ExceptionGroup.__weakref__", .none]), (154, tu []), (156, tu [s "world" 408, s "trait" 409, s "args" 410, s "T" 411, s "bounds" 412, s "selection" 413, s "found" 414, s "rows" 415]), (157, tu []), (159, co [s "select" 405, s "select" 406, s "/claim/cut.py" 407, i 148, i 5, i 0, i 0, i 3, r 154, .bool true, i 181, r 155, .none, r 156, r 157, r 158, i 416, i 148, s "/claim/cut.py" 417]), (160, fn "select" .none (s "lendcore.traits" 300) 159 (t 16)), (161, tu []), (163, tu [s "told" 426, s "kind" 427]), (164, tu []), (166, co [s "parts_of" 423, s "parts_of" 424, s "/claim/cut.py" 425, i 163, i 1, i 0, i 0, i 3, r 161, .bool true, i 181, r 162, .none, r 163, r 164, r 165, i 428, i 163, s "/claim/cut.py" 429]), (167, fn "parts_of" .none (s "lendcore.types" 419) 166 (t 19)), (168, tu []), (170, tu [s "told" 434, s "parts" 435, s "kind" 436]), (171, tu []), (173, co [s "rebuilt" 431, s "rebuilt" 432, s "/claim/cut.py" 433, i 172, i 2, i 0, i 0, i 3, r 168, .bool true, i 181, r 169, .none, r 170, r 171, r 172, i 437, i 172, s "/claim/cut.py" 438]), (174, fn "rebuilt" .none (s "lendcore.types" 419) 173 (t 20)), (175, tu []), (178, co [s "substituted" 440, s "substituted" 441, s "/claim/cut.py" 442, i 183, i 2, i 0, i 0, i 3, r 175, .bool true, i 181, r 176, .none, .none, .none, r 177, i 443, i 183, s "/claim/cut.py" 444]), (179, fn "substituted" .none (s "lendcore.types" 419) 178 (t 21)), (180, tu []), (183, co [s "with_regions" 446, s "with_regions" 447, s "/claim/cut.py" 448, i 187, i 2, i 0, i 0, i 3, r 180, .bool true, i 181, r 181, .none, .none, .none, r 182, i 449, i 187, s "/claim/cut.py" 450]), (184, fn "with_regions" .none (s "lendcore.types" 419) 183 (t 22)), (185, tu []), (187, tu [s "region" 455]), (188, tu []), (190, co [s "no_region" 452, s "no_region" 453, s "/claim/cut.py" 454, i 193, i 1, i 0, i 0, i 3, r 185, .bool true, i 181, r 186, .none, r 187, r 188, r 189, i 456, i 193, s "/claim/cut.py" 457]), (191, fn "no_region" .none (s "lendcore.types" 419) 190 (t 23)), (192, tu []), (194, tu [s "told" 462]), (195, tu []), (197, co [s "erased" 459, s "erased" 460, s "/claim/cut.py" 461, i 195, i 1, i 0, i 0, i 3, r 192, .bool true, i 181, r 193, .none, r 194, r 195, r 196, i 463, i 195, s "/claim/cut.py" 464]), (198, fn "erased" .none (s "lendcore.types" 419) 197 (t 24)), (199, tu []), (201, tu [s "region" 469]), (202, tu []), (204, co [s "region_text" 466, s "region_text" 467, s "/claim/cut.py" 468, i 197, i 1, i 0, i 0, i 3, r 199, .bool true, i 181, r 200, .none, r 201, r 202, r 203, i 470, i 197, s "/claim/cut.py" 471]), (205, fn "region_text" .none (s "lendcore.types" 419) 204 (t 25)), (206, tu []), (209, co [s "type_text" 473, s "type_text" 474, s "/claim/cut.py" 475, i 201, i 1, i 0, i 0, i 3, r 206, .bool true, i 181, r 207, .none, .none, .none, r 208, i 476, i 201, s "/claim/cut.py" 477]), (210, fn "type_text" .none (s "lendcore.types" 419) 209 (t 26)), (211, tu []), (213, tu [s "pattern" 482, s "told" 483, s "table" 484, s "some" 485, s "others" 486, s "one" 487, s "other" 488]), (214, tu []), (216, co [s "matched" 479, s "matched" 480, s "/claim/cut.py" 481, i 223, i 3, i 0, i 0, i 3, r 211, .bool true, i 181, r 212, .none, r 213, r 214, r 215, i 489, i 223, s "/claim/cut.py" 490]), (217, fn "matched" .none (s "lendcore.types" 419) 216 (t 27)), (218, tu []), (220, tu [s "told" 495, s "variant" 496, s "world" 497]), (221, tu []), (223, co [s "field_rows" 492, s "field_rows" 493, s "/claim/cut.py" 494, i 242, i 3, i 0, i 0, i 3, r 218, .bool true, i 181, r 219, .none, r 220, r 221, r 222, i 498, i 242, s "/claim/cut.py" 499]), (224, fn "field_rows" .none (s "lendcore.types" 419) 223 (t 28)), (225, tu []), (228, co [s "fields_of" 501, s "fields_of" 502, s "/claim/cut.py" 503, i 244, i 3, i 0, i 0, i 3, r 225, .bool true, i 181, r 226, .none, .none, .none, r 227, i 504, i 244, s "/claim/cut.py" 505]), (229, fn "fields_of" .none (s "lendcore.types" 419) 228 (t 29)), (230, tu []), (232, tu [s "told" 510, s "world" 511, s "row" 512]), (233, tu []), (235, co [s "has_drop" 507, s "has_drop" 508, s "/claim/cut.py" 509, i 256, i 2, i 0, i 0, i 3, r 230, .bool true, i 181, r 231, .none, r 232, r 233, r 234, i 513, i 256, s "/claim/cut.py" 514]), (236, fn "has_drop" .none (s "lendcore.types" 419) 235 (t 30)), (237, tu []), (240, co [s "needs_drop" 516, s "needs_drop" 517, s "/claim/cut.py" 518, i 261, i 2, i 0, i 0, i 3, r 237, .bool true, i 181, r 238, .none, .none, .none, r 239, i 519, i 261, s "/claim/cut.py" 520]), (241, fn "needs_drop" .none (s "lendcore.types" 419) 240 (t 31)), (242, tu []), (245, co [s "key_of" 526, s "key_of" 527, s "/claim/cut.py" 528, i 279, i 2, i 0, i 0, i 3, r 242, .bool true, i 181, r 243, .none, .none, .none, r 244, i 529, i 279, s "/claim/cut.py" 530]), (246, fn "key_of" .none (s "lendcore.generics" 522) 245 (t 34)), (247, tu []), (250, co [s "param_names" 532, s "param_names" 533, s "/claim/cut.py" 534, i 283, i 2, i 0, i 0, i 3, r 247, .bool true, i 181, r 248, .none, .none, .none, r 249, i 535, i 283, s "/claim/cut.py" 536]), (251, fn "param_names" .none (s "lendcore.generics" 522) 250 (t 35)), (252, tu []), (254, tu [s "world" 541, s "path" 542, s "types" 543, s "names" 544]), (255, tu []), (257, co [s "substitution_of" 538, s "substitution_of" 539, s "/claim/cut.py" 540, i 285, i 3, i 0, i 0, i 3, r 252, .bool true, i 181, r 253, .none, r 254, r 255, r 256, i 545, i 285, s "/claim/cut.py" 546]), (258, fn "substitution_of" .none (s "lendcore.generics" 522) 257 (t 36)), (259, tu []), (262, co [s "closed_ref" 548, s "closed_ref" 549, s "/claim/cut.py" 550, i 290, i 2, i 0, i 0, i 3, r 259, .bool true, i 181, r 260, .none, .none, .none, r 261, i 551, i 290, s "/claim/cut.py" 552]), (263, fn "closed_ref" .none (s "lendcore.generics" 522) 262 (t 37)), (264, tu []), (267, co [s "resolved_ref" 554, s "resolved_ref" 555, s "/claim/cut.py" 556, i 295, i 2, i 0, i 0, i 3, r 264, .bool true, i 181, r 265, .none, .none, .none, r 266, i 557, i 295, s "/claim/cut.py" 558]), (268, fn "resolved_ref" .none (s "lendcore.generics" 522) 267 (t 38)), (269, tu []), (271, tu [s "world" 563, s "T" 564, s "found" 565]), (272, tu []), (274, co [s "drop_impl" 560, s "drop_impl" 561, s "/claim/cut.py" 562, i 312, i 2, i 0, i 0, i 3, r 269, .bool true, i 181, r 270, .none, r 271, r 272, r 273, i 566, i 312, s "/claim/cut.py" 567]), (275, fn "drop_impl" .none (s "lendcore.generics" 522) 274 (t 39)), (283, tu [.none, .none]), (284, tu []), (286, tu [s "self" 586, s "name" 587, s "arg_count" 588, s "locals_told" 589, s "blocks" 590, s "spots" 591]), (287, tu []), (289, co [s "__init__" 583, s "Body.__init__" 584, s "/claim/cut.py" 585, i 322, i 6, i 0, i 0, i 3, r 284, .bool true, i 181, r 285, .none, r 286, r 287, r 288, i 592, i 322, s "/claim/cut.py" 593]), (290, fn "Body.__init__" (r 283) (s "lendcore.mir" 569) 289 (u 41 0)), (291, tu []), (293, tu [s "self" 598, s "local" 599]), (294, tu []), (296, co [s "type_of" 595, s "Body.type_of" 596, s "/claim/cut.py" 597, i 329, i 2, i 0, i 0, i 3, r 291, .bool true, i 181, r 292, .none, r 293, r 294, r 295, i 600, i 329, s "/claim/cut.py" 601]), (297, fn "Body.type_of" .none (s "lendcore.mir" 569) 296 (u 41 1)), (298, tu []), (300, tu [s "self" 606]), (301, tu []), (303, co [s "args" 603, s "Body.args" 604, s "/claim/cut.py" 605, i 332, i 1, i 0, i 0, i 3, r 298, .bool true, i 181, r 299, .none, r 300, r 301, r 302, i 607, i 332, s "/claim/cut.py" 608]), (304, fn "Body.args" .none (s "lendcore.mir" 569) 303 (u 41 2)), (305, tu []), (307, tu [s "self" 613, s "block" 614]), (308, tu []), (310, co [s "statements" 610, s "Body.statements" 611, s "/claim/cut.py" 612, i 335, i 2, i 0, i 0, i 3, r 305, .bool true, i 181, r 306, .none, r 307, r 308, r 309, i 615, i 335, s "/claim/cut.py" 616]), (311, fn "Body.statements" .none (s "lendcore.mir" 569) 310 (u 41 3)), (312, tu []), (314, tu [s "self" 621, s "block" 622]), (315, tu []), (317, co [s "terminator" 618, s "Body.terminator" 619, s "/claim/cut.py" 620, i 338, i 2, i 0, i 0, i 3, r 312, .bool true, i 181, r 313, .none, r 314, r 315, r 316, i 623, i 338, s "/claim/cut.py" 624]), (318, fn "Body.terminator" .none (s "lendcore.mir" 569) 317 (u 41 4)), (319, tu []), (321, tu [s "self" 629, s "point" 630]), (322, tu []), (324, co [s "spot" 626, s "Body.spot" 627, s "/claim/cut.py" 628, i 341, i 2, i 0, i 0, i 3, r 319, .bool true, i 181, r 320, .none, r 321, r 322, r 323, i 631, i 341, s "/claim/cut.py" 632]), (325, fn "Body.spot" .none (s "lendcore.mir" 569) 324 (u 41 5)), (326, tu [.bool true, .none]), (327, tu []), (329, tu [s "self" 637, s "told" 638, s "is_mut" 639, s "name" 640]), (330, tu []), (332, co [s "new_local" 634, s "Body.new_local" 635, s "/claim/cut.py" 636, i 344, i 4, i 0, i 0, i 3, r 327, .bool true, i 181, r 328, .none, r 329, r 330, r 331, i 641, i 344, s "/claim/cut.py" 642]), (333, fn "Body.new_local" (r 326) (s "lendcore.mir" 569) 332 (u 41 6)), (334, tu [s "arg_count" 644, s "blocks" 645, s "locals" 646, s "name" 647, s "spots" 648]), (335, di (.type "dict") [e P "__module__" 578 (s "lendcore.mir" 569), e P "__firstlineno__" 582 (.int 320 581), e P "__init__" 594 (r 290), e P "type_of" 602 (r 297), e P "args" 609 (r 304), e P "statements" 617 (r 311), e P "terminator" 625 (r 318), e P "spot" 633 (r 325), e P "new_local" 643 (r 333), e P "__static_attributes__" 649 (r 334), e P "__dict__" 651 (r 337), e P "__weakref__" 653 (r 338), e P "__doc__" 654 .none] 4), (336, ⟨.type "type", none, .cls ⟨"Body", [.type "object"], [r 336, .type "object"], 335, "Body", true, [], [], false, none, false⟩, #[none, none, some (s "Body" 571), some (s "Body" 579), some (.builtin "object.__new__"), some (.bool true)]⟩), (337, fi "getset_descriptor" [s "__dict__" 650, r 336, .builtin "function.__dict__", .builtin "function.__dict__#set"]), (338, fi "getset_descriptor" [s "__weakref__" 652, r 336, .builtin "ExceptionGroup.__weakref__", .none]), (341, tu []), (343, tu [s "told" 660, s "variant" 661, s "k" 662, s "world" 663]), (344, tu []), (346, co [s "field_type" 657, s "field_type" 658, s "/claim/cut.py" 659, i 346, i 4, i 0, i 0, i 3, r 341, .bool true, i 181, r 342, .none, r 343, r 344, r 345, i 664, i 346, s "/claim/cut.py" 665]), (347, fn "field_type" .none (s "lendcore.mir" 569) 346 (t 42)), (348, tu []), (350, tu [s "told" 670, s "variant" 671, s "projection" 672, s "world" 673, s "word" 674]), (351, tu []), (353, co [s "projected" 667, s "projected" 668, s "/claim/cut.py" 669, i 352, i 4, i 0, i 0, i 3, r 348, .bool true, i 181, r 349, .none, r 350, r 351, r 352, i 675, i 352, s "/claim/cut.py" 676]), (354, fn "projected" .none (s "lendcore.mir" 569) 353 (t 43)), (355, tu []), (357, tu [s "body" 681, s "place" 682, s "world" 683, s "told" 684, s "variant" 685, s "projection" 686]), (358, tu []), (360, co [s "place_type" 678, s "place_type" 679, s "/claim/cut.py" 680, i 363, i 3, i 0, i 0, i 3, r 355, .bool true, i 181, r 356, .none, r 357, r 358, r 359, i 687, i 363, s "/claim/cut.py" 688]), (361, fn "place_type" .none (s "lendcore.mir" 569) 360 (t 44)), (362, tu []), (364, tu [s "T" 699, s "table" 700]), (365, tu []), (367, co [s "plain_type" 696, s "plain_type" 697, s "/claim/cut.py" 698, i 371, i 2, i 0, i 0, i 3, r 362, .bool true, i 181, r 363, .none, r 364, r 365, r 366, i 701, i 371, s "/claim/cut.py" 702]), (368, fn "plain_type" .none (s "lendcore.mono" 690) 367 (t 48)), (369, tu []), (371, tu [s "operand" 707, s "table" 708]), (372, tu []), (374, co [s "plain_operand" 704, s "plain_operand" 705, s "/claim/cut.py" 706, i 373, i 2, i 0, i 0, i 3, r 369, .bool true, i 181, r 370, .none, r 371, r 372, r 373, i 709, i 373, s "/claim/cut.py" 710]), (375, fn "plain_operand" .none (s "lendcore.mono" 690) 374 (t 49)), (376, tu []), (379, co [s "plain_operands" 712, s "plain_operands" 713, s "/claim/cut.py" 714, i 377, i 2, i 0, i 0, i 3, r 376, .bool true, i 181, r 377, .none, .none, .none, r 378, i 715, i 377, s "/claim/cut.py" 716]), (380, fn "plain_operands" .none (s "lendcore.mono" 690) 379 (t 50)), (381, tu []), (383, tu [s "rvalue" 721, s "table" 722, s "kind" 723]), (384, tu []), (386, co [s "plain_rvalue" 718, s "plain_rvalue" 719, s "/claim/cut.py" 720, i 379, i 2, i 0, i 0, i 3, r 381, .bool true, i 181, r 382, .none, r 383, r 384, r 385, i 724, i 379, s "/claim/cut.py" 725]), (387, fn "plain_rvalue" .none (s "lendcore.mono" 690) 386 (t 51)), (388, tu []), (390, tu [s "statement" 730, s "table" 731]), (391, tu []), (393, co [s "plain_statement" 727, s "plain_statement" 728, s "/claim/cut.py" 729, i 396, i 2, i 0, i 0, i 3, r 388, .bool true, i 181, r 389, .none, r 390, r 391, r 392, i 732, i 396, s "/claim/cut.py" 733]), (394, fn "plain_statement" .none (s "lendcore.mono" 690) 393 (t 52)), (395, tu []), (397, tu [s "T" 738, s "left" 739, s "many" 740]), (398, tu []), (400, co [s "want_small" 735, s "want_small" 736, s "/claim/cut.py" 737, i 402, i 1, i 0, i 0, i 3, r 395, .bool true, i 181, r 396, .none, r 397, r 398, r 399, i 741, i 402, s "/claim/cut.py" 742]), (401, fn "want_small" .none (s "lendcore.mono" 690) 400 (t 53)), (409, tu []), (411, tu [s "self" 759, s "world" 760, s "bodies" 761]), (412, tu []), (414, co [s "__init__" 756, s "Instances.__init__" 757, s "/claim/cut.py" 758, i 411, i 3, i 0, i 0, i 3, r 409, .bool true, i 181, r 410, .none, r 411, r 412, r 413, i 762, i 411, s "/claim/cut.py" 763]), (415, fn "Instances.__init__" .none (s "lendcore.mono" 690) 414 (u 54 0)), (416, tu []), (419, co [s "wanted" 765, s "Instances.wanted" 766, s "/claim/cut.py" 767, i 418, i 2, i 0, i 0, i 3, r 416, .bool true, i 181, r 417, .none, .none, .none, r 418, i 768, i 418, s "/claim/cut.py" 769]), (420, fn "Instances.wanted" .none (s "lendcore.mono" 690) 419 (u 54 1)), (421, tu []), (423, tu [s "self" 774, s "T" 775, s "waiting" 776, s "seen" 777, s "here" 778, s "reference" 779]), (424, tu []), (426, co [s "want_drops" 771, s "Instances.want_drops" 772, s "/claim/cut.py" 773, i 432, i 2, i 0, i 0, i 3, r 421, .bool true, i 181, r 422, .none, r 423, r 424, r 425, i 780, i 432, s "/claim/cut.py" 781]), (427, fn "Instances.want_drops" .none (s "lendcore.mono" 690) 426 (u 54 2)), (428, tu []), (430, tu [s "self" 786, s "key" 787, s "path" 788, s "types" 789, s "table" 790]), (431, tu []), (433, co [s "make_all" 783, s "Instances.make_all" 784, s "/claim/cut.py" 785, i 445, i 1, i 0, i 0, i 3, r 428, .bool true, i 181, r 429, .none, r 430, r 431, r 432, i 791, i 445, s "/claim/cut.py" 792]), (434, fn "Instances.make_all" .none (s "lendcore.mono" 690) 433 (u 54 3)), (435, tu []), (438, co [s "made_body" 794, s "Instances.made_body" 795, s "/claim/cut.py" 796, i 451, i 4, i 0, i 0, i 3, r 435, .bool true, i 181, r 436, .none, .none, .none, r 437, i 797, i 451, s "/claim/cut.py" 798]), (439, fn "Instances.made_body" .none (s "lendcore.mono" 690) 438 (u 54 4)), (440, tu []), (442, tu [s "self" 803, s "body" 804, s "terminator" 805, s "table" 806, s "kind" 807, s "reference" 808, s "operands" 809, s "T" 810]), (443, tu []), (445, co [s "plain_terminator" 800, s "Instances.plain_terminator" 801, s "/claim/cut.py" 802, i 459, i 4, i 0, i 0, i 3, r 440, .bool true, i 181, r 441, .none, r 442, r 443, r 444, i 811, i 459, s "/claim/cut.py" 812]), (446, fn "Instances.plain_terminator" .none (s "lendcore.mono" 690) 445 (u 54 5)), (447, tu [s "bodies" 814, s "keys" 815, s "made" 816, s "waiting" 817, s "world" 818]), (448, di (.type "dict") [e P "__module__" 751 (s "lendcore.mono" 690), e P "__firstlineno__" 755 (.int 409 754), e P "__init__" 764 (r 415), e P "wanted" 770 (r 420), e P "want_drops" 782 (r 427), e P "make_all" 793 (r 434), e P "made_body" 799 (r 439), e P "plain_terminator" 813 (r 446), e P "__static_attributes__" 819 (r 447), e P "__dict__" 821 (r 450), e P "__weakref__" 823 (r 451), e P "__doc__" 824 .none] 4), (449, ⟨.type "type", none, .cls ⟨"Instances", [.type "object"], [r 449, .type "object"], 448, "Instances", true, [], [], false, none, false⟩, #[none, none, some (s "Instances" 744), some (s "Instances" 752), some (.builtin "object.__new__"), some (.bool true)]⟩), (450, fi "getset_descriptor" [s "__dict__" 820, r 449, .builtin "function.__dict__", .builtin "function.__dict__#set"]), (451, fi "getset_descriptor" [s "__weakref__" 822, r 449, .builtin "ExceptionGroup.__weakref__", .none]), (454, tu []), (457, co [s "inner_types" 827, s "inner_types" 828, s "/claim/cut.py" 829, i 474, i 2, i 0, i 0, i 3, r 454, .bool true, i 181, r 455, .none, .none, .none, r 456, i 830, i 474, s "/claim/cut.py" 831]), (458, fn "inner_types" .none (s "lendcore.mono" 690) 457 (t 55)), (459, tu []), (461, tu [s "world" 836, s "bodies" 837, s "main" 838, s "found" 839]), (462, tu []), (464, co [s "instances" 833, s "instances" 834, s "/claim/cut.py" 835, i 487, i 3, i 0, i 0, i 3, r 459, .bool true, i 181, r 460, .none, r 461, r 462, r 463, i 840, i 487, s "/claim/cut.py" 841]), (465, fn "instances" .none (s "lendcore.mono" 690) 464 (t 56)), (473, tu []), (474, tu [s "" 857, r 473]), (475, tu []), (477, tu [s "self" 861, s "path" 862, s "regions" 863, s "params" 864, s "variants" 865, s "is_enum" 866, s "module" 867, s "publics" 868]), (478, tu []), (480, co [s "__init__" 858, s "Adt.__init__" 859, s "/claim/cut.py" 860, i 495, i 8, i 0, i 0, i 3, r 475, .bool true, i 181, r 476, .none, r 477, r 478, r 479, i 869, i 495, s "/claim/cut.py" 870]), (481, fn "Adt.__init__" (r 474) (s "lendcore.world" 843) 480 (u 58 0)), (482, tu [s "is_enum" 872, s "module" 873, s "params" 874, s "path" 875, s "publics" 876, s "regions" 877, s "variants" 878]), (483, di (.type "dict") [e P "__module__" 852 (s "lendcore.world" 843), e P "__firstlineno__" 856 (.int 493 855), e P "__init__" 871 (r 481), e P "__static_attributes__" 879 (r 482), e P "__dict__" 881 (r 485), e P "__weakref__" 883 (r 486), e P "__doc__" 884 .none] 4), (484, ⟨.type "type", none, .cls ⟨"Adt", [.type "object"], [r 484, .type "object"], 483, "Adt", true, [], [], false, none, false⟩, #[none, none, some (s "Adt" 845), some (s "Adt" 853), some (.builtin "object.__new__"), some (.bool true)]⟩), (485, fi "getset_descriptor" [s "__dict__" 880, r 484, .builtin "function.__dict__", .builtin "function.__dict__#set"]), (486, fi "getset_descriptor" [s "__weakref__" 882, r 484, .builtin "ExceptionGroup.__weakref__", .none]), (496, tu []), (498, tu [s "self" 902, s "path" 903, s "regions" 904, s "params" 905, s "own" 906, s "inputs" 907, s "output" 908, s "self_kind" 909, s "has_body" 910]), (499, tu []), (501, co [s "__init__" 899, s "Sig.__init__" 900, s "/claim/cut.py" 901, i 505, i 9, i 0, i 0, i 3, r 496, .bool true, i 181, r 497, .none, r 498, r 499, r 500, i 911, i 505, s "/claim/cut.py" 912]), (502, fn "Sig.__init__" .none (s "lendcore.world" 843) 501 (u 59 0)), (503, tu [s "has_body" 914, s "inputs" 915, s "output" 916, s "own" 917, s "params" 918, s "path" 919, s "regions" 920, s "self_kind" 921]), (504, di (.type "dict") [e P "__module__" 894 (s "lendcore.world" 843), e P "__firstlineno__" 898 (.int 503 897), e P "__init__" 913 (r 502), e P "__static_attributes__" 922 (r 503), e P "__dict__" 924 (r 506), e P "__weakref__" 926 (r 507), e P "__doc__" 927 .none] 4), (505, ⟨.type "type", none, .cls ⟨"Sig", [.type "object"], [r 505, .type "object"], 504, "Sig", true, [], [], false, none, false⟩, #[none, none, some (s "Sig" 887), some (s "Sig" 895), some (.builtin "object.__new__"), some (.bool true)]⟩), (506, fi "getset_descriptor" [s "__dict__" 923, r 505, .builtin "function.__dict__", .builtin "function.__dict__#set"]), (507, fi "getset_descriptor" [s "__weakref__" 925, r 505, .builtin "ExceptionGroup.__weakref__", .none]), (517, tu [.none]), (518, tu []), (520, tu [s "self" 945, s "modules" 946]), (521, tu []), (523, co [s "__init__" 942, s "World.__init__" 943, s "/claim/cut.py" 944, i 516, i 2, i 0, i 0, i 3, r 518, .bool true, i 181, r 519, .none, r 520, r 521, r 522, i 947, i 516, s "/claim/cut.py" 948]), (524, fn "World.__init__" (r 517) (s "lendcore.world" 843) 523 (u 60 0)), (525, tu []), (527, tu [s "self" 953, s "path" 954, s "number" 955, s "k" 956, s "module" 957]), (528, tu []), (530, co [s "is_field_seen" 950, s "World.is_field_seen" 951, s "/claim/cut.py" 952, i 526, i 5, i 0, i 0, i 3, r 525, .bool true, i 181, r 526, .none, r 527, r 528, r 529, i 958, i 526, s "/claim/cut.py" 959]), (531, fn "World.is_field_seen" .none (s "lendcore.world" 843) 530 (u 60 1)), (532, tu [s "adts" 961, s "bodies" 962, s "consts" 963, s "impls" 964, s "modules" 965, s "sigs" 966, s "traits" 967, s "variants" 968]), (533, di (.type "dict") [e P "__module__" 937 (s "lendcore.world" 843), e P "__firstlineno__" 941 (.int 514 940), e P "__init__" 949 (r 524), e P "is_field_seen" 960 (r 531), e P "__static_attributes__" 969 (r 532), e P "__dict__" 971 (r 535), e P "__weakref__" 973 (r 536), e P "__doc__" 974 .none] 4), (534, ⟨.type "type", none, .cls ⟨"World", [.type "object"], [r 534, .type "object"], 533, "World", true, [], [], false, none, false⟩, #[none, none, some (s "World" 930), some (s "World" 938), some (.builtin "object.__new__"), some (.bool true)]⟩), (535, fi "getset_descriptor" [s "__dict__" 970, r 534, .builtin "function.__dict__", .builtin "function.__dict__#set"]), (536, fi "getset_descriptor" [s "__weakref__" 972, r 534, .builtin "ExceptionGroup.__weakref__", .none]), (539, tu []), (541, tu [s "script" 982, s "k" 983, s "cell" 984, s "big" 985, s "mixed" 986]), (542, tu []), (544, co [s "_law_pool" 979, s "_law_pool" 980, s "/claim/cut.py" 981, i 529, i 2, i 0, i 0, i 3, r 539, .bool true, i 181, r 540, .none, r 541, r 542, r 543, i 987, i 529, s "/claim/cut.py" 988]), (545, fn "_law_pool" .none (s "law_ot0038_01" 977) 544 (t 62)), (546, tu []), (548, tu [s "source" 993, s "top" 994, s "drawn" 995]), (549, tu []), (551, co [s "_law_take" 990, s "_law_take" 991, s "/claim/cut.py" 992, i 536, i 2, i 0, i 0, i 3, r 546, .bool true, i 181, r 547, .none, r 548, r 549, r 550, i 996, i 536, s "/claim/cut.py" 997]), (552, fn "_law_take" .none (s "law_ot0038_01" 977) 551 (t 63)), (553, tu []), (555, tu [s "source" 1002, s "things" 1003]), (556, tu []), (558, co [s "_law_one" 999, s "_law_one" 1000, s "/claim/cut.py" 1001, i 543, i 2, i 0, i 0, i 3, r 553, .bool true, i 181, r 554, .none, r 555, r 556, r 557, i 1004, i 543, s "/claim/cut.py" 1005]), (559, fn "_law_one" .none (s "law_ot0038_01" 977) 558 (t 64)), (560, tu [s "int" 1007, s "i32" 1008]), (561, tu [s "bool" 1010]), (562, tu []), (563, tu [s "tuple" 1012, r 562]), (564, tu []), (566, tu [s "region" 1017, s "inner" 1018]), (567, tu []), (569, co [s "_law_struct" 1014, s "_law_struct" 1015, s "/claim/cut.py" 1016, i 548, i 2, i 0, i 0, i 3, r 564, .bool true, i 181, r 565, .none, r 566, r 567, r 568, i 1019, i 548, s "/claim/cut.py" 1020]), (570, fn "_law_struct" .none (s "law_ot0038_01" 977) 569 (t 68)), (571, tu []), (574, co [s "_law_text" 1022, s "_law_text" 1023, s "/claim/cut.py" 1024, i 550, i 1, i 0, i 0, i 3, r 571, .bool true, i 181, r 572, .none, .none, .none, r 573, i 1025, i 550, s "/claim/cut.py" 1026]), (575, fn "_law_text" .none (s "law_ot0038_01" 977) 574 (t 69)), (576, tu []), (579, co [s "_law_key" 1028, s "_law_key" 1029, s "/claim/cut.py" 1030, i 561, i 2, i 0, i 0, i 3, r 576, .bool true, i 181, r 577, .none, .none, .none, r 578, i 1031, i 561, s "/claim/cut.py" 1032]), (580, fn "_law_key" .none (s "law_ot0038_01" 977) 579 (t 70)), (581, tu []), (584, co [s "_law_closed" 1034, s "_law_closed" 1035, s "/claim/cut.py" 1036, i 563, i 2, i 0, i 0, i 3, r 581, .bool true, i 181, r 582, .none, .none, .none, r 583, i 1037, i 563, s "/claim/cut.py" 1038]), (585, fn "_law_closed" .none (s "law_ot0038_01" 977) 584 (t 71)), (586, tu []), (589, co [s "_law_has_box" 1040, s "_law_has_box" 1041, s "/claim/cut.py" 1042, i 572, i 1, i 0, i 0, i 3, r 586, .bool true, i 181, r 587, .none, .none, .none, r 588, i 1043, i 572, s "/claim/cut.py" 1044]), (590, fn "_law_has_box" .none (s "law_ot0038_01" 977) 589 (t 72)), (591, tu []), (593, tu [s "source" 1049, s "deep" 1050, s "way" 1051, s "inner" 1052]), (594, tu []), (596, co [s "_law_drawn_type" 1046, s "_law_drawn_type" 1047, s "/claim/cut.py" 1048, i 576, i 2, i 0, i 0, i 3, r 591, .bool true, i 181, r 592, .none, r 593, r 594, r 595, i 1053, i 576, s "/claim/cut.py" 1054]), (597, fn "_law_drawn_type" .none (s "law_ot0038_01" 977) 596 (t 73)), (598, tu []), (601, co [s "_law_locals" 1056, s "_law_locals" 1057, s "/claim/cut.py" 1058, i 588, i 0, i 0, i 0, i 3, r 598, .bool true, i 181, r 599, .none, .none, .none, r 600, i 1059, i 588, s "/claim/cut.py" 1060]), (602, fn "_law_locals" .none (s "law_ot0038_01" 977) 601 (t 74)), (603, tu []), (606, co [s "_law_rows" 1062, s "_law_rows" 1063, s "/claim/cut.py" 1064, i 592, i 1, i 0, i 0, i 3, r 603, .bool true, i 181, r 604, .none, .none, .none, r 605, i 1065, i 592, s "/claim/cut.py" 1066]), (607, fn "_law_rows" .none (s "law_ot0038_01" 977) 606 (t 75)), (608, tu []), (611, co [s "_law_bodies" 1068, s "_law_bodies" 1069, s "/claim/cut.py" 1070, i 604, i 1, i 0, i 0, i 3, r 608, .bool true, i 181, r 609, .none, .none, .none, r 610, i 1071, i 604, s "/claim/cut.py" 1072]), (612, fn "_law_bodies" .none (s "law_ot0038_01" 977) 611 (t 76)), (613, tu []), (616, co [s "_law_main" 1074, s "_law_main" 1075, s "/claim/cut.py" 1076, i 617, i 1, i 0, i 0, i 3, r 613, .bool true, i 181, r 614, .none, .none, .none, r 615, i 1077, i 617, s "/claim/cut.py" 1078]), (617, fn "_law_main" .none (s "law_ot0038_01" 977) 616 (t 77)), (618, tu []), (621, co [s "_law_world" 1080, s "_law_world" 1081, s "/claim/cut.py" 1082, i 620, i 0, i 0, i 0, i 3, r 618, .bool true, i 181, r 619, .none, .none, .none, r 620, i 1083, i 620, s "/claim/cut.py" 1084]), (622, fn "_law_world" .none (s "law_ot0038_01" 977) 621 (t 78)), (623, tu []), (626, co [s "_law_body_right" 1086, s "_law_body_right" 1087, s "/claim/cut.py" 1088, i 628, i 3, i 0, i 0, i 3, r 623, .bool true, i 181, r 624, .none, .none, .none, r 625, i 1089, i 628, s "/claim/cut.py" 1090]), (627, fn "_law_body_right" .none (s "law_ot0038_01" 977) 626 (t 79)), (628, tu []), (630, tu [s "bodies" 1095, s "call" 1096]), (631, tu []), (633, co [s "_law_is_refused" 1092, s "_law_is_refused" 1093, s "/claim/cut.py" 1094, i 643, i 2, i 0, i 0, i 3, r 628, .bool true, i 181, r 629, .none, r 630, r 631, r 632, i 1097, i 643, s "/claim/cut.py" 1098]), (634, fn "_law_is_refused" .none (s "law_ot0038_01" 977) 633 (t 80)), (635, tu []), (638, co [s "_law_refusals_right" 1100, s "_law_refusals_right" 1101, s "/claim/cut.py" 1102, i 649, i 1, i 0, i 0, i 3, r 635, .bool true, i 181, r 636, .none, .none, .none, r 637, i 1103, i 649, s "/claim/cut.py" 1104]), (639, fn "_law_refusals_right" .none (s "law_ot0038_01" 977) 638 (t 81)), (640, tu []), (643, co [s "law" 1106, s "law" 1107, s "/claim/cut.py" 1108, i 656, i 1, i 0, i 0, i 3, r 640, .bool true, i 181, r 641, .none, .none, .none, r 642, i 1109, i 656, s "/claim/cut.py" 1110]), (644, fn "law" .none (s "law_ot0038_01" 977) 643 (t 82))]
noncomputable def rs (P : Params) : List Obj := [PySem.W.boot_o_0 P, PySem.W.boot_o_1 P, PySem.W.boot_o_4 P, PySem.W.boot_o_5 P, PySem.W.boot_o_6 P, PySem.W.boot_o_7 P, PySem.W.boot_o_8 P, PySem.W.boot_o_9 P, PySem.W.boot_o_10 P, tu [], fl tb, co [s "<module>" 182, s "<module>" 183, s "/claim/cut.py" 184, i 1, i 0, i 0, i 0, i 0, r 11, .bool false, i 181, r 12, .none, .none, .none, .none, i 185, i 1, s "/claim/cut.py" 186], ⟨.type "frame", none, .plain, #[some (r 13), some (r 3), some (r 3), none, some (s "__main__" 164), none, some (r 0)]⟩, fl [], f0 "_wall" (t 0), fi "builtin_function_or_method" [.builtin "type.__prepare__", .type "type"], di (.type "dict") [e P "__module__" 203 (s "lendcore.errors" 194), e P "__qualname__" 205 (s "LendError" 204), e P "__firstlineno__" 207 (.int 5 206), e P "__init__" 217 (r 36), e P "__static_attributes__" 220 (r 37)] 5, tu [], fl [i 7, i 4, r 35], co [s "LendError" 198, s "LendError" 199, s "/claim/cut.py" 200, i 5, i 0, i 0, i 0, i 0, r 25, .bool false, i 181, r 26, .none, .none, .none, .none, i 201, i 5, s "/claim/cut.py" 202], ⟨.type "frame", none, .plain, #[some (r 27), some (r 3), some (r 24), none, some (s "lendcore.errors" 194), none, some (r 0)]⟩, fl [], f0 "LendError.__init__" (u 2 0), fi "super" [r 39, r 39, r 39], fi "builtin_function_or_method" [.builtin "object.__init_subclass__", r 39], fi "builtin_function_or_method" [.builtin "type.__prepare__", .type "type"], di (.type "dict") [e P "__module__" 235 (s "lendcore.errors" 194), e P "__qualname__" 237 (s "TraitFault" 236), e P "__firstlineno__" 239 (.int 11 238), e P "__static_attributes__" 240 (r 50)] 4, tu [], fl [], co [s "TraitFault" 230, s "TraitFault" 231, s "/claim/cut.py" 232, i 11, i 0, i 0, i 0, i 0, r 46, .bool false, i 181, r 47, .none, .none, .none, .none, i 233, i 11, s "/claim/cut.py" 234], ⟨.type "frame", none, .plain, #[some (r 48), some (r 3), some (r 45), none, some (s "lendcore.errors" 194), none, some (r 0)]⟩, fi "super" [r 52, r 52, r 52], fi "builtin_function_or_method" [.builtin "object.__init_subclass__", r 52], fl [], f0 "head_pairs" (t 5), fl [], f0 "could_be" (t 6), fl [], f0 "match_type" (t 7), fl [], f0 "match_all" (t 8), fl [], f0 "last_name" (t 11), fl [], f0 "names_of" (t 12), fl [], f0 "matches_impl" (t 13), fl [], f0 "is_plainly_copy" (t 14), tu [], fi "builtin_function_or_method" [.builtin "type.__prepare__", .type "type"], di (.type "dict") [e P "__module__" 342 (s "lendcore.traits" 300), e P "__qualname__" 344 (s "Selection" 343), e P "__firstlineno__" 346 (.int 101 345), e P "__init__" 355 (r 122), e P "bound_of" 364 (r 129), e P "needs_of" 370 (r 134), e P "candidates" 388 (r 141), e P "asked" 394 (r 146), e P "__static_attributes__" 397 (r 147)] 9, tu [], fl [i 103, i 4, r 121, i 107, i 4, r 128, i 112, i 4, r 133, i 119, i 4, r 140, i 133, i 4, r 145], co [s "Selection" 337, s "Selection" 338, s "/claim/cut.py" 339, i 101, i 0, i 0, i 0, i 0, r 112, .bool false, i 181, r 113, .none, .none, .none, .none, i 340, i 101, s "/claim/cut.py" 341], ⟨.type "frame", none, .plain, #[some (r 114), some (r 3), some (r 111), none, some (s "lendcore.traits" 300), none, some (r 0)]⟩, fl [], f0 "Selection.__init__" (u 15 0), fl [], f0 "Selection.bound_of" (u 15 1), fl [], f0 "Selection.needs_of" (u 15 2), fl [], f0 "Selection.candidates" (u 15 3), fl [], f0 "Selection.asked" (u 15 4), fi "super" [r 149, r 149, r 149], fi "builtin_function_or_method" [.builtin "object.__init_subclass__", r 149], fl [], f0 "select" (t 16), fl [], f0 "parts_of" (t 19), fl [], f0 "rebuilt" (t 20), fl [], f0 "substituted" (t 21), fl [], f0 "with_regions" (t 22), fl [], f0 "no_region" (t 23), fl [], f0 "erased" (t 24), fl [], f0 "region_text" (t 25), fl [], f0 "type_text" (t 26), fl [], f0 "matched" (t 27), fl [], f0 "field_rows" (t 28), fl [], f0 "fields_of" (t 29), fl [], f0 "has_drop" (t 30), fl [], f0 "needs_drop" (t 31), fl [], f0 "key_of" (t 34), fl [], f0 "param_names" (t 35), fl [], f0 "substitution_of" (t 36), fl [], f0 "closed_ref" (t 37), fl [], f0 "resolved_ref" (t 38), fl [], f0 "drop_impl" (t 39), tu [], fi "builtin_function_or_method" [.builtin "type.__prepare__", .type "type"], di (.type "dict") [e P "__module__" 578 (s "lendcore.mir" 569), e P "__qualname__" 580 (s "Body" 579), e P "__firstlineno__" 582 (.int 320 581), e P "__init__" 594 (r 290), e P "type_of" 602 (r 297), e P "args" 609 (r 304), e P "statements" 617 (r 311), e P "terminator" 625 (r 318), e P "spot" 633 (r 325), e P "new_local" 643 (r 333), e P "__static_attributes__" 649 (r 334)] 11, tu [], fl [i 322, i 4, r 289, i 329, i 4, r 296, i 332, i 4, r 303, i 335, i 4, r 310, i 338, i 4, r 317, i 341, i 4, r 324, i 344, i 4, r 332], co [s "Body" 573, s "Body" 574, s "/claim/cut.py" 575, i 320, i 0, i 0, i 0, i 0, r 279, .bool false, i 181, r 280, .none, .none, .none, .none, i 576, i 320, s "/claim/cut.py" 577], ⟨.type "frame", none, .plain, #[some (r 281), some (r 3), some (r 278), none, some (s "lendcore.mir" 569), none, some (r 0)]⟩, fl [], f0 "Body.__init__" (u 41 0), fl [], f0 "Body.type_of" (u 41 1), fl [], f0 "Body.args" (u 41 2), fl [], f0 "Body.statements" (u 41 3), fl [], f0 "Body.terminator" (u 41 4), fl [], f0 "Body.spot" (u 41 5), fl [], f0 "Body.new_local" (u 41 6), fi "super" [r 336, r 336, r 336], fi "builtin_function_or_method" [.builtin "object.__init_subclass__", r 336], fl [], f0 "field_type" (t 42), fl [], f0 "projected" (t 43), fl [], f0 "place_type" (t 44), fl [], f0 "plain_type" (t 48), fl [], f0 "plain_operand" (t 49), fl [], f0 "plain_operands" (t 50), fl [], f0 "plain_rvalue" (t 51), fl [], f0 "plain_statement" (t 52), fl [], f0 "want_small" (t 53), tu [], fi "builtin_function_or_method" [.builtin "type.__prepare__", .type "type"], di (.type "dict") [e P "__module__" 751 (s "lendcore.mono" 690), e P "__qualname__" 753 (s "Instances" 752), e P "__firstlineno__" 755 (.int 409 754), e P "__init__" 764 (r 415), e P "wanted" 770 (r 420), e P "want_drops" 782 (r 427), e P "make_all" 793 (r 434), e P "made_body" 799 (r 439), e P "plain_terminator" 813 (r 446), e P "__static_attributes__" 819 (r 447)] 10, tu [], fl [i 411, i 4, r 414, i 418, i 4, r 419, i 432, i 4, r 426, i 445, i 4, r 433, i 451, i 4, r 438, i 459, i 4, r 445], co [s "Instances" 746, s "Instances" 747, s "/claim/cut.py" 748, i 409, i 0, i 0, i 0, i 0, r 405, .bool false, i 181, r 406, .none, .none, .none, .none, i 749, i 409, s "/claim/cut.py" 750], ⟨.type "frame", none, .plain, #[some (r 407), some (r 3), some (r 404), none, some (s "lendcore.mono" 690), none, some (r 0)]⟩, fl [], f0 "Instances.__init__" (u 54 0), fl [], f0 "Instances.wanted" (u 54 1), fl [], f0 "Instances.want_drops" (u 54 2), fl [], f0 "Instances.make_all" (u 54 3), fl [], f0 "Instances.made_body" (u 54 4), fl [], f0 "Instances.plain_terminator" (u 54 5), fi "super" [r 449, r 449, r 449], fi "builtin_function_or_method" [.builtin "object.__init_subclass__", r 449], fl [], f0 "inner_types" (t 55), fl [], f0 "instances" (t 56), tu [], fi "builtin_function_or_method" [.builtin "type.__prepare__", .type "type"], di (.type "dict") [e P "__module__" 852 (s "lendcore.world" 843), e P "__qualname__" 854 (s "Adt" 853), e P "__firstlineno__" 856 (.int 493 855), e P "__init__" 871 (r 481), e P "__static_attributes__" 879 (r 482)] 5, tu [], fl [i 495, i 4, r 480], co [s "Adt" 847, s "Adt" 848, s "/claim/cut.py" 849, i 493, i 0, i 0, i 0, i 0, r 469, .bool false, i 181, r 470, .none, .none, .none, .none, i 850, i 493, s "/claim/cut.py" 851], ⟨.type "frame", none, .plain, #[some (r 471), some (r 3), some (r 468), none, some (s "lendcore.world" 843), none, some (r 0)]⟩, fl [], f0 "Adt.__init__" (u 58 0), fi "super" [r 484, r 484, r 484], fi "builtin_function_or_method" [.builtin "object.__init_subclass__", r 484], tu [], fi "builtin_function_or_method" [.builtin "type.__prepare__", .type "type"], di (.type "dict") [e P "__module__" 894 (s "lendcore.world" 843), e P "__qualname__" 896 (s "Sig" 895), e P "__firstlineno__" 898 (.int 503 897), e P "__init__" 913 (r 502), e P "__static_attributes__" 922 (r 503)] 5, tu [], fl [i 505, i 4, r 501], co [s "Sig" 889, s "Sig" 890, s "/claim/cut.py" 891, i 503, i 0, i 0, i 0, i 0, r 492, .bool false, i 181, r 493, .none, .none, .none, .none, i 892, i 503, s "/claim/cut.py" 893], ⟨.type "frame", none, .plain, #[some (r 494), some (r 3), some (r 491), none, some (s "lendcore.world" 843), none, some (r 0)]⟩, fl [], f0 "Sig.__init__" (u 59 0), fi "super" [r 505, r 505, r 505], fi "builtin_function_or_method" [.builtin "object.__init_subclass__", r 505], tu [], fi "builtin_function_or_method" [.builtin "type.__prepare__", .type "type"], di (.type "dict") [e P "__module__" 937 (s "lendcore.world" 843), e P "__qualname__" 939 (s "World" 938), e P "__firstlineno__" 941 (.int 514 940), e P "__init__" 949 (r 524), e P "is_field_seen" 960 (r 531), e P "__static_attributes__" 969 (r 532)] 6, tu [], fl [i 516, i 4, r 523, i 526, i 4, r 530], co [s "World" 932, s "World" 933, s "/claim/cut.py" 934, i 514, i 0, i 0, i 0, i 0, r 513, .bool false, i 181, r 514, .none, .none, .none, .none, i 935, i 514, s "/claim/cut.py" 936], ⟨.type "frame", none, .plain, #[some (r 515), some (r 3), some (r 512), none, some (s "lendcore.world" 843), none, some (r 0)]⟩, fl [], f0 "World.__init__" (u 60 0), fl [], f0 "World.is_field_seen" (u 60 1), fi "super" [r 534, r 534, r 534], fi "builtin_function_or_method" [.builtin "object.__init_subclass__", r 534], fl [], f0 "_law_pool" (t 62), fl [], f0 "_law_take" (t 63), fl [], f0 "_law_one" (t 64), fl [], f0 "_law_struct" (t 68), fl [], f0 "_law_text" (t 69), fl [], f0 "_law_key" (t 70), fl [], f0 "_law_closed" (t 71), fl [], f0 "_law_has_box" (t 72), fl [], f0 "_law_drawn_type" (t 73), fl [], f0 "_law_locals" (t 74), fl [], f0 "_law_rows" (t 75), fl [], f0 "_law_bodies" (t 76), fl [], f0 "_law_main" (t 77), fl [], f0 "_law_world" (t 78), fl [], f0 "_law_body_right" (t 79), fl [], f0 "_law_is_refused" (t 80), fl [], f0 "_law_refusals_right" (t 81), fl [], f0 "law" (t 82)]
noncomputable def mg : Frag -> List Obj -> Nat -> Nat -> List Obj
 | _, _, _, 0 => []
 | [], o :: r, n, k + 1 => o :: mg [] r (n + 1) k
 | [], [], _, _ => []
 | (a, o) :: l, r, n, k + 1 => if a = n then o :: mg l r (n + 1) k else match r with
  | p :: r => p :: mg ((a, o) :: l) r (n + 1) k
  | [] => []
noncomputable def ob (P : Params) : List Obj := mg (K P) (rs P) 0 645
noncomputable def tr : List Obj -> Nat -> BT -> BT
 | [], _, t => t
 | o :: l, n, t => tr l (n + 1) (t.ins n o)
noncomputable def T0 (P : Params) : BT := tr (((((ob P).take 15).set 2 (PySem.W.boot_o_2 P)).set 3 (PySem.W.boot_o_3 P)).set 12 (fl (tb.take 0))) 0 .nil
noncomputable def T1 (P : Params) : BT := tr (((((ob P).take 43).set 3 (g P 2 11 "lendcore.errors" 194)).set 12 (fl (tb.take 6))).set 39 (IT)) 0 .nil
noncomputable def T2 (P : Params) : BT := tr ((((ob P).take 83).set 3 (g P 8 17 "lendcore.traits" 300)).set 12 (fl (tb.take 21))) 0 .nil
noncomputable def T3 (P : Params) : BT := tr ((((ob P).take 109).set 3 (g P 12 21 "lendcore.traits" 300)).set 12 (fl (tb.take 33))) 0 .nil
noncomputable def T4 (P : Params) : BT := tr ((((ob P).take 161).set 3 (g P 14 23 "lendcore.types" 419)).set 12 (fl (tb.take 39))) 0 .nil
noncomputable def T5 (P : Params) : BT := tr ((((ob P).take 242).set 3 (g P 28 37 "lendcore.generics" 522)).set 12 (fl (tb.take 78))) 0 .nil
noncomputable def T6 (P : Params) : BT := tr ((((ob P).take 276).set 3 (g P 35 44 "lendcore.mir" 569)).set 12 (fl (tb.take 96))) 0 .nil
noncomputable def T7 (P : Params) : BT := tr ((((ob P).take 341).set 3 (g P 36 45 "lendcore.mir" 569)).set 12 (fl (tb.take 99))) 0 .nil
noncomputable def T8 (P : Params) : BT := tr ((((ob P).take 402).set 3 (g P 47 56 "lendcore.mono" 690)).set 12 (fl (tb.take 126))) 0 .nil
noncomputable def T9 (P : Params) : BT := tr ((((ob P).take 454).set 3 (g P 48 57 "lendcore.mono" 690)).set 12 (fl (tb.take 129))) 0 .nil
noncomputable def Ht (P : Params) : BT := tr ((((ob P).take 489).set 3 (g P 51 60 "lendcore.world" 843)).set 12 (fl (tb.take 138))) 0 .nil
noncomputable def Hu (P : Params) : BT := tr ((((ob P).take 510).set 3 (g P 52 61 "lendcore.world" 843)).set 12 (fl (tb.take 141))) 0 .nil
noncomputable def Hv (P : Params) : BT := tr ((((ob P).take 562).set 3 (g P 58 67 "law_ot0038_01" 977)).set 12 (fl (tb.take 153))) 0 .nil
noncomputable def Hw (P : Params) : BT := tr ((((ob P).take 640).set 3 (g P 73 82 "law_ot0038_01" 977)).set 12 (fl (tb.take 195))) 0 .nil
noncomputable def CO (P : Params) : BT := tr (ob P) 0 .nil
end
section
noncomputable def ev : Env := { scope := pw.main.scope, locals := mainNs, globals := mainNs, cells := [], code := .ref 13, frame := some 14 }
noncomputable abbrev bd : List Stmt := behindTheImports pw
noncomputable abbrev cE : Code := .body bd ev
noncomputable abbrev p0 : Pos := ⟨0, 0, 0, 0⟩
noncomputable abbrev B : List Frame := [topFrame p0]
noncomputable abbrev at_ (T : Params -> BT) (n k : Nat) (w : World) (os : OsState) : SharedT := ⟨T w.params, n, {}, #[], {}, k, os⟩
noncomputable def fh (a n : Nat) : List Stmt := (bd.drop a).take n
section
variable (w : World) (os : OsState)
noncomputable abbrev run (n : Nat) (s : SharedT) (l : List Stmt) (p : Pos) := PySem.W.Fast.tw10110043849684766642 PySem.W.Fast.tw14364793385576792824 pw w 11 (some (.ref 6)) 1 n s (piecesOf l ev cE p B)
def c0 : run w 271 (at_ T0 15 187 w os) (fh 0 3) ⟨0, 0, 0, 0⟩ = some (.next, at_ T1 43 228 w os, cE, ⟨5, 0, 10, 24⟩) := by kernel_rfl
def c1 : run w 383 (at_ T1 43 228 w os) (fh 3 8) ⟨5, 0, 10, 24⟩ = some (.next, at_ T2 83 304 w os, cE, ⟨84, 0, 84, 9⟩) := by kernel_rfl
theorem c2 : run w 118 (at_ T2 83 304 w os) (fh 11 4) ⟨84, 0, 84, 9⟩ = some (.next, at_ T3 109 335 w os, cE, ⟨95, 0, 100, 46⟩) := by kernel_rfl
def c3 : run w 401 (at_ T3 109 335 w os) (fh 15 3) ⟨95, 0, 100, 46⟩ = some (.next, at_ T4 161 421 w os, cE, ⟨161, 0, 161, 8⟩) := by kernel_rfl
def c4 : run w 394 (at_ T4 161 421 w os) (fh 18 15) ⟨161, 0, 161, 8⟩ = some (.next, at_ T5 242 524 w os, cE, ⟨277, 0, 277, 8⟩) := by kernel_rfl
def c5 : run w 186 (at_ T5 242 524 w os) (fh 33 8) ⟨277, 0, 277, 8⟩ = some (.next, at_ T6 276 571 w os, cE, ⟨319, 0, 319, 8⟩) := by kernel_rfl
def c6 : run w 426 (at_ T6 276 571 w os) (fh 41 1) ⟨319, 0, 319, 8⟩ = some (.next, at_ T7 341 657 w os, cE, ⟨320, 0, 345, 16⟩) := by kernel_rfl
def c7 : run w 305 (at_ T7 341 657 w os) (fh 42 12) ⟨320, 0, 345, 16⟩ = some (.next, at_ T8 402 744 w os, cE, ⟨402, 0, 408, 41⟩) := by kernel_rfl
def c8 : run w 393 (at_ T8 402 744 w os) (fh 54 1) ⟨402, 0, 408, 41⟩ = some (.next, at_ T9 454 827 w os, cE, ⟨409, 0, 473, 25⟩) := by kernel_rfl
def c9 : run w 306 (at_ T9 454 827 w os) (fh 55 4) ⟨409, 0, 473, 25⟩ = some (.next, at_ Ht 489 887 w os, cE, ⟨493, 0, 502, 30⟩) := by kernel_rfl
def IU : run w 237 (at_ Ht 489 887 w os) (fh 59 1) ⟨493, 0, 502, 30⟩ = some (.next, at_ Hu 510 930 w os, cE, ⟨503, 0, 513, 32⟩) := by kernel_rfl
def IV : run w 392 (at_ Hu 510 930 w os) (fh 60 7) ⟨503, 0, 513, 32⟩ = some (.next, at_ Hv 562 1012 w os, cE, ⟨546, 0, 546, 9⟩) := by kernel_rfl
def IW : run w 392 (at_ Hv 562 1012 w os) (fh 67 15) ⟨546, 0, 546, 9⟩ = some (.next, at_ Hw 640 1106 w os, cE, ⟨649, 0, 655, 76⟩) := by kernel_rfl
def IX : run w 27 (at_ Hw 640 1106 w os) (fh 82 1) ⟨649, 0, 655, 76⟩ = some (.next, at_ CO 645 1112 w os, cE, ⟨656, 0, 678, 38⟩) := by kernel_rfl
end
end
section
noncomputable abbrev H1 (P : Params) : Heap := ⟨(ob P).toArray, {}⟩
noncomputable abbrev s0 (w : World) (os : OsState) : Shared := ⟨boot_heap w.params, #[], boot_drawn, boot_toks, os⟩
noncomputable abbrev s1 (w : World) (os : OsState) : Shared := ⟨H1 w.params, #[], {}, 1112, os⟩
noncomputable abbrev sa (w : World) (os : OsState) : Shared := ⟨⟨((ob w.params).take 15 |>.set 2 (boot_o_2 w.params) |>.set 3 (boot_o_3 w.params) |>.set 12 (fl (tb.take 0))).toArray, {}⟩, #[], {}, 187, os⟩
section
variable (w : World) (os : OsState)
def EY : PySem.W.Fast.tw15667345088766844465 PySem.W.Fast.tw14364793385576792824 pw w 11 (some (.ref 6)) 12 (s0 w os) (topStub pw) =
  some (sa w os, ⟨PySem.W.Fast.tw11892475500146522536 PySem.W.Fast.tw14364793385576792824 cE, cE, p0, B⟩) := by kernel_rfl
def pre : topGo treeTable pw w 11 (some (.ref 6)) 12 (s0 w os) (topStub pw) = some (sa w os, ⟨denote treeTable cE, cE, p0, B⟩) := by
 rw [PySem.W.Fast.te15667345088766844465, PySem.W.Fast.te14364793385576792824, PySem.W.Fast.te11892475500146522536]; exact EY w os
def EZ : PySem.W.Fast.tw14374325043358763698 PySem.W.Fast.tw14364793385576792824 pw w 11 (some (.ref 6)) 1 1 (sa w os) (blockOf bd ev cE p0 B) =
  some (.next, (at_ T0 15 187 w os).abs, cE, p0) := by kernel_rfl
def IY : segRun treeTable pw w 11 (some (.ref 6)) 1 1 (sa w os) (blockOf bd ev cE p0 B) = some (.next, (at_ T0 15 187 w os).abs, cE, p0) := by
 rw [PySem.W.Fast.te14374325043358763698, PySem.W.Fast.te14364793385576792824]; exact EZ w os
def E0 : (at_ CO 645 1112 w os).abs = s1 w os := by kernel_rfl
def E1 : PySem.W.Fast.tw14082659384304107361 PySem.W.Fast.tw14364793385576792824 pw w 11 (some (.ref 6)) 2 (at_ CO 645 1112 w os).abs (restOf [] ev cE ⟨656, 0, 678, 38⟩ B) =
  some (at_ CO 645 1112 w os).abs := by kernel_rfl
theorem fin : topRun treeTable pw w 11 (some (.ref 6)) 2 (at_ CO 645 1112 w os).abs (restOf [] ev cE ⟨656, 0, 678, 38⟩ B) = some (s1 w os) := by
 rw [PySem.W.Fast.te14082659384304107361, PySem.W.Fast.te14364793385576792824]
 exact (E1 w os).trans (congrArg some (E0 w os))
end
def sg {w : World} {n : Nat} {s s' : SharedT} {l : List Stmt} {p p' : Pos} (h : run w n s l p = some (.next, s', cE, p')) :
  segRun treeTable pw w 11 (some (.ref 6)) 1 n s.abs (piecesOf l ev cE p B) = some (.next, s'.abs, cE, p') := by
 refine segRun_of ?_
 rw [PySem.W.Fast.te10110043849684766642, PySem.W.Fast.te14364793385576792824]; exact h
def IZ : bd = fh 0 3 ++ (fh 3 8 ++ (fh 11 4 ++ (fh 15 3 ++ (fh 18 15 ++ (fh 33 8 ++ (fh 41 1 ++ (fh 42 12 ++ (fh 54 1 ++ (fh 55 4 ++ (fh 59 1 ++ (fh 60 7 ++ (fh 67 15 ++ (fh 82 1 ++ []))))))))))))) := by kernel_rfl
def I0 (w : World) (os : OsState) : topRun treeTable pw w 11 (some (.ref 6)) (12 + (1 + (271 + (383 + (118 + (401 + (394 + (186 + (426 + (305 + (393 + (306 + (237 + (392 + (392 + (27 + 2)))))))))))))))) (s0 w os) (topStub pw) = some (s1 w os) := by
 refine go_top (pre w os) (piece_block (q := p0) (IY w os) ?_)
 rw [show restOf bd ev cE p0 B = restOf (fh 0 3 ++ (fh 3 8 ++ (fh 11 4 ++ (fh 15 3 ++ (fh 18 15 ++ (fh 33 8 ++ (fh 41 1 ++ (fh 42 12 ++ (fh 54 1 ++ (fh 55 4 ++ (fh 59 1 ++ (fh 60 7 ++ (fh 67 15 ++ (fh 82 1 ++ [])))))))))))))) ev cE p0 B from congrArg (fun b => restOf b ev cE p0 B) IZ]
 exact piece_app (sg (c0 w os)) (piece_app (sg (c1 w os)) (piece_app (sg (c2 w os)) (piece_app (sg (c3 w os)) (piece_app (sg (c4 w os)) (piece_app (sg (c5 w os)) (piece_app (sg (c6 w os))
  (piece_app (sg (c7 w os)) (piece_app (sg (c8 w os)) (piece_app (sg (c9 w os)) (piece_app (sg (IU w os)) (piece_app (sg (IV w os)) (piece_app (sg (IW w os)) (piece_app (sg (IX w os)) (fin w os))))))))))))))
def op : opening pw = plainProg pw.main.scope.names := by kernel_rfl
def I1 (s : Shared) : fenceModules? pw s = some s := by kernel_rfl
def I6 (w : World) : ((boot_heap w.params).isNs mainGlobals && (Array.mk [] : Array GenState).size == 0, (boot_heap w.params).objs.size, (boot_heap w.params).nsMap mainGlobals "__annotations__") = (true, 11, some (.ref 6)) := by kernel_rfl
end
section
noncomputable def vw : Program := view pw [0, 2, 3, 5, 6, 7, 8, 10, 11, 12, 13, 14, 15, 16, 18, 19, 20, 21, 22, 23, 24, 25, 26, 27, 28, 29, 30, 31, 33, 34, 35, 36, 37, 38, 39, 41, 42, 43, 44, 46, 47, 48, 49, 50, 51, 52, 53, 54, 55, 56, 58, 59, 60, 62, 63, 64, 65, 66, 67, 68, 69, 70, 71, 72, 73, 74, 75, 76, 77, 78, 79, 80, 81, 82]
noncomputable abbrev lo : List Str := ["LendError", "Adt"]
noncomputable abbrev Xt (s : Shared) : Bool := xlAt vw [] s && recOk (RowW.records PySem.Challenge.rw_ot0038_01.row.toRowW) s
noncomputable def as : List Addr := [2, 3, 15, 17, 18, 20, 21, 22, 29, 30, 32, 33, 35, 36, 37, 38, 39, 40, 43, 50, 51, 52, 55, 57, 58, 60, 61, 62, 64, 65, 67, 68, 69, 71, 72, 74, 75, 76, 78, 79, 81, 82, 83, 85, 86, 88, 89, 90, 93, 94, 95, 97, 98, 100, 101, 102, 104, 105, 107, 108, 116, 118, 119, 121, 122, 123, 125, 126, 128, 129, 130, 133, 134, 135, 137, 138, 140, 141, 142, 145, 146, 147, 148, 149, 150, 151, 154, 156, 157, 159, 160, 161, 163, 164, 166, 167, 168, 170, 171, 173, 174, 175, 178, 179, 180, 183, 184, 185, 187, 188, 190, 191, 192, 194, 195, 197, 198, 199, 201, 202, 204, 205, 206, 209, 210, 211, 213, 214, 216, 217, 218, 220, 221, 223, 224, 225, 228, 229, 230, 232, 233, 235, 236, 237, 240, 241, 242, 245, 246, 247, 250, 251, 252, 254, 255, 257, 258, 259, 262, 263, 264, 267, 268, 269, 271, 272, 274, 275, 283, 284, 286, 287, 289, 290, 291, 293, 294, 296, 297, 298, 300, 301, 303, 304, 305, 307, 308, 310, 311, 312, 314, 315, 317, 318, 319, 321, 322, 324, 325, 326, 327, 329, 330, 332, 333, 334, 335, 336, 337, 338, 341, 343, 344, 346, 347, 348, 350, 351, 353, 354, 355, 357, 358, 360, 361, 362, 364, 365, 367, 368, 369, 371, 372, 374, 375, 376, 379, 380, 381, 383, 384, 386, 387, 388, 390, 391, 393, 394, 395, 397, 398, 400, 401, 409, 411, 412, 414, 415, 416, 419, 420, 421, 423, 424, 426, 427, 428, 430, 431, 433, 434, 435, 438, 439, 440, 442, 443, 445, 446, 447, 448, 449, 450, 451, 454, 457, 458, 459, 461, 462, 464, 465, 473, 474, 475, 477, 478, 480, 481, 482, 483, 484, 485, 486, 496, 498, 499, 501, 502, 503, 504, 505, 506, 507, 517, 518, 520, 521, 523, 524, 525, 527, 528, 530, 531, 532, 533, 534, 535, 536, 539, 541, 542, 544, 545, 546, 548, 549, 551, 552, 553, 555, 556, 558, 559, 560, 561, 562, 563, 564, 566, 567, 569, 570, 571, 574, 575, 576, 579, 580, 581, 584, 585, 586, 589, 590, 591, 593, 594, 596, 597, 598, 601, 602, 603, 606, 607, 608, 611, 612, 613, 616, 617, 618, 621, 622, 623, 626, 627, 628, 630, 631, 633, 634, 635, 638, 639, 640, 643, 644]
def I7 (P : Params) : as = (K P).map (·.1) := by kernel_rfl
noncomputable abbrev HK : Hook := kmHook K as I7 [226]
section
variable (w : World) (os : OsState)
def I8 : (staticsOk (importedModules pw.main.body) (boot_heap w.params) (H1 w.params) && namesBound pw (H1 w.params) && gensDone (s1 w os) && laidKept (boot_heap w.params) (H1 w.params)) = true := by kernel_rfl
def I9 : HK.obs (s1 w os) = HK.val w := by kernel_rfl
end
end
section
def Ja (w : World) (os : OsState) : PySem.W.Fast.tw4187177175401517315 vw lo (importedModules pw.main.body) Xt true (s1 w os) = openGood vw lo := by kernel_rfl
end
section
def Jb : PySem.W.Fast.tw9446332074065402090 PySem.Challenge.rw_ot0038_01 = true := by decide +kernel
theorem ws : PySem.Challenge.rw_ot0038_01.wellSaid = true := (congrFun PySem.W.Fast.te9446332074065402090 _).trans Jb
end
section
theorem left : LeftO pw vw lo Xt HK.obs HK.val 8560 := by
 refine LeftO.of_pieces (H₀ := boot_heap) (H₁ := H1) (gs₀ := #[]) (gs₁ := #[]) (d₀ := boot_drawn) (d₁ := {}) (k₀ := boot_toks) (k₁ := 1112) (m₀ := 11) (ann := some (.ref 6)) (boot_open op rfl I1) I6 I0 (by rfl) fun w => funext fun os => ?_
 exact congr (congrArg Prod.mk (I8 w os)) (congr (congrArg Prod.mk ((congrFun (congrFun (congrFun (congrFun (congrFun (congrFun PySem.W.Fast.te4187177175401517315 vw) lo) _) Xt) true) (s1 w os)).trans (Ja w os))) (I9 w os))
noncomputable def dl : DefRec := match t 82 with
 | .FunctionDef n a b _ _ _ sc _ _ pos => ⟨n, a, b, sc, pos⟩
 | _ => ⟨.ofString "", default, [], default, default⟩
def yR : defOf vw (.ofString "law") = some (dl, []) := by kernel_rfl
def El : pw.theDef (.ofString "law") = some (dl.params, dl.body, dl.scope) := by kernel_rfl
def Jc : (chainsOk vw && opensWell pw && (frees PySem.Challenge.rw_ot0038_01.row.toRowW && PySem.Challenge.rw_ot0038_01.row.within.isEmpty)) = true := by decide +kernel
theorem hd (h : WalkO vw lo (XL vw []) HK.says PySem.Challenge.rw_ot0038_01.row.toRowW dl [] fun f vs => PySem.call f vs) : PySem.Challenge.rw_ot0038_01.Holds := by
 refine holds_law ws fun E2 => ?_
 refine holds_open (r := PySem.Challenge.rw_ot0038_01.row) (q := vw) (loose := lo) (Xt := Xt) (XP := XL vw []) (Yf := HK.obs) (Ya := HK.val) (YP := HK.says) (d := dl) (kwd := []) (N := 8560) left (Hook.of HK) (Hook.keeps HK)
  (fun s e => xl_of s (Bool.and_eq_true_iff.mp e).1) XL.keeps yR El (by rfl) (fun s e => recFacts_of (Bool.and_eq_true_iff.mp e).2) (by rfl) E2 Jc ⟨rfl, rfl, rfl, rfl, rfl, by decide +kernel⟩ ⟨[.list []], by decide +kernel, by decide +kernel⟩ h
end
end Mine.O
namespace Mine
section
open Lean
def Cr (w : String) : String := (w.drop 1).toString
def nX (k : String) (l : List Syntax) : Syntax := .node .none (if k.front == '.' then "Lean.Parser" ++ k else k).toName l.toArray
def v8 (a : String) : Syntax := .atom .none a
def E3 (a : String) (l : List Syntax) : Syntax := nX "null" (l.intersperse (v8 a))
def v9 (l : List Syntax) : Syntax := nX ".Tactic.tacticSeq" [nX ".Tactic.tacticSeq1Indented" [E3 ";" l]]
def Jd (x : Syntax) : Syntax := nX ".Tactic.simpLemma" [nX "null" [], nX "null" [], x]
def E4 (k : String) (l : List Syntax) : Syntax := match k with
 | "(" => if l.length == 1 then l.headD .missing else nX ".Term.app" [l.headD .missing, nX "null" l.tail]
 | "<" => nX ".Term.anonymousCtor" [v8 "⟨", E3 "," l, v8 "⟩"]
 | "{s" => v9 l
 | "{," => E3 "," (l.map Jd)
 | _ => nX (Cr k) l
def yJ (w : String) : Syntax := nX "PyProof.Rows.tacticTm_at_" [v8 "tm_at", Syntax.mkStrLit w]
def Je (w : String) : List Syntax := match w.front with
 | '\'' => [v8 (Cr w)]
 | '?' => [nX ".Term.syntheticHole" [v8 "?", v8 "_"]]
 | '@' => [nX ".Term.byTactic" [v8 "by", v9 [yJ (Cr w)]]]
 | '%' => [yJ (Cr w)]
 | '^' => [E4 "(" [mkIdent ``PySem.Str.ofString, Syntax.mkStrLit (Cr w)]]
 | '_' => List.replicate w.length (nX ".Term.hole" [v8 "_"])
 | _ => [mkIdent w.toName]
def Jf (st : List (String × List Syntax)) (w : String) : List (String × List Syntax) :=
 if w.front == '{' || w == "(" || w == "<" then (w, []) :: st
 else
  let a := st.headD ("", [])
  let r := st.tail
  if w == "}" || w == ")" || w == ">" then
   let b := r.headD ("", [])
   (b.1, b.2 ++ [E4 a.1 a.2]) :: r.tail
  else (a.1, a.2 ++ Je w) :: r
def E5 : List (List String) := ("$r#{.Tactic.refine 'refine ( $ ) }
$x#{.Tactic.exact 'exact ( $ ) }
$a#{.Tactic.apply 'apply ( $ ) }
$g#{.Tactic.guardTarget 'guard_target {.equal {.equalD '=~ } } ( $ ) }
$G#{.Tactic.guardTarget 'guard_target {.equal {.equalR '= } } ( wpAny __ ( $ ) ___ ) }
$R#{.Tactic.tacticRepeat_ 'repeat {s $ } }
$y#{.Tactic.refine 'refine ( $ @room @bind @dk @lay ? ) }
$d#{.Tactic.dsimp 'dsimp {.Tactic.optConfig {null } } {null } {null 'only } {null '[ {, $ } '] } {null } }
$D#{.Tactic.dsimp 'dsimp {.Tactic.optConfig {null } } {null } {null 'only } {null '[ {, $ } '] } {null {.Tactic.location 'at {.Tactic.locationWildcard '* } } } }
$S#{.Tactic.simp 'simp {.Tactic.optConfig {null } } {null } {null 'only } {null '[ {, $ } '] } {null {.Tactic.location 'at {.Tactic.locationWildcard '* } } } }
$U#{.Tactic.dsimp 'dsimp {.Tactic.optConfig {null } } {null } {null 'only } {null '[ {, $ } '] } {null {.Tactic.location 'at {.Tactic.locationHyp {null hl {.Tactic.locationType {patternIgnore {token.«⊢» '⊢ } } } } } } } }
$V#{.Tactic.simp 'simp {.Tactic.optConfig {null } } {null } {null 'only } {null '[ {, $ } '] } {null {.Tactic.location 'at {.Tactic.locationHyp {null hl {.Tactic.locationType {patternIgnore {token.«⊢» '⊢ } } } } } } } }
$t#{.Tactic.tacticTry_ 'try {s $ } }
$i#{.Tactic.intro 'intro {null $ } }
$c#{.Tactic.focus 'focus {s $ } }
slx#V Str.length_append if_true if_false Bool.false_eq_true LC LD ln2 LF LG LH LJ LK LL LM ln10 Kw Kx Ky Kz KA KC|S Str.length_append if_true if_false Bool.false_eq_true LC LD ln2 LF LG LH LJ LK LL LM ln10 Kw Kx Ky Kz KA KC
dtx#U aq|D aq
o2#g Nat.le __;%o5|g Nat.lt __;%o6|%o7
o5#!a Nat.add_le_add;c %ra;c %ble|!a oB;c %ra;c %ble|!a oD;c %ra;c %ble|!a oC;c %ra;c %oCD|!a oE;c %ra;c %oR|!a oF;c %ra;c %ble|!a sA;c %ra;c %ble;c %ble|!a sB;c %ra;c %o3;c %ble|!a Nat.le_trans ( Nat.min_le_right __ );c %ra|!a oG;c %ra;c %ble|!a cm;c %ra;c %mlr|!r Lr ? ?;c %o1;c %o1|!r Lu ? ?;c %o1;c %o1
o6#!a Nat.lt_succ_of_le;c %mlr|!a uM;c %ra;c %ra;c %ra;c %ble|!a uN;c %ra;c %ra;c %ra;c %ble
o7#!a sF;c %ra;c %ra|!a Eq.symm ( Nat.sub_add_cancel ? );c %o4|!x Nat.le_antisymm @ra ( Nat.le_of_sub_eq_zero ( Eq.symm @ra ) )
oCD#!x Nat.le_of_ble_eq_true rfl|!%oD
oR#!x Nat.le_of_ble_eq_true rfl|!x Nat.le_refl _
mlr#!x Nat.le_max_left __|!x Nat.le_max_right __
o1#!x Nat.le_of_ble_eq_true rfl|!%as|!a Nat.le_trans;c %ra;c %ble|%o2
oD#!x oD @ra @ble|!%as
o4#!%as|!x oF @ra ( Nat.le_refl _ )
o3#!%as|!x Nat.le_refl _|!x Nat.le_of_succ_le @ra
o#!x Nat.le_of_ble_eq_true rfl|!%as|!a Nat.le_trans;c %ra;c %ble|!a Nat.lt_of_le_of_lt;c %ra;c %ble|!x Nat.add_le_add_left ( Nat.le_of_ble_eq_true rfl ) _|!x Nat.le_add_right __|%o2|%lia
ble#!x Nat.le_of_ble_eq_true rfl
mem#!a List.mem_cons_self|!a List.mem_cons_of_mem;%mem
m#!a List.mem_cons_self|!a List.mem_cons_of_mem;%mem
pick#!a aC.here|!a aC.there;%pick|!%as
p#!a aC.here|!a aC.there;%pick|!%as
put#!a nZ.here|!a nZ.there;%put
lay#R %lay1
lay1#a Lay.nil|a Lay.gN|a Lay.kD|a Lay.local|a Lay.cell|a Lay.other;%rfl;%rfl
lent#R %lent1
lent1#a iT.nil|a iT.free;%mem|a iT.other;%rfl
room#!%as|x aj.le @as @o
r#!%as|x aj.le @as @o
weak#R %weak1
w#R %weak1
weak1#!a ao.refl|!a ao.pick;c %pick|!a ao.drop
name#r WE.pure @as @pick @some ?|r Nm.cell @as @kd @mem @pick ?|r Nm.free @as @kd @mem @pick ?|r Nm.global @as @kd @ra fL.str ?|r Nm.global @as @kd @ra fL.int ?|r Nm.global @as @kd @ra @ra ?|r aX.at @ra @as @kd ?|r Nm.global @as @kd @ra fL.raw ?
kd#x Ks @some
ptk#x H6 @some
pure#r WE.pure @as @pick @some ?
some#x Eq.refl ( some _ )
e#g WE ____ ( Expr.Name __ ) __;%name|!a WE.int|!a WE.str|!a WE.none|!a WE.bool|g WE ____ ( Expr.Subscript _ ( Expr.Slice ____ ) _ ) __;%slice|g WE ____ ( Expr.Subscript ___ ) __;%sub|g WE ____ ( Expr.Call ( Expr.Attribute ___ ) ___ ) __;r WE.HB ?|g WE ____ ( Expr.Call ____ ) __;%call|g WE ____ ( Expr.Compare ____ ) __;%pure|g WE ____ ( Expr.Tuple ___ ) __;%pure|g WE ____ ( Expr.IfExp ____ ) __;%pure|g WE ____ ( Expr.Attribute ___ ) __;r WE.field ?|!a WE.Av|!a WE.binop|!a WE.unary|!r WE.compare ?|!r WE.FC ?|!r WE.tuple1 ?|!r WE.FD ?|!a WE.tuple
call#r WE.DN @ra @as @kd @pick @some ?|r WE.JA @ra @as @kd ?|r WE.top2 @ra @as @kd ?|r WE.Jz @ra @as @kd ?|r WE.JB @ra @as @kd ?|r WE.FJ @ra @as @kd ?|!r WE.CY ?|!r WE.call2 ?|!r WE.CX ?|!r WE.CZ ?|r WE.call ?
slice#g WE ____ ( Expr.Subscript ( Expr.Name ^calls _ ) __ ) __;r AK ?|r WE.Bq ?|r WE.Br ?
sub#%pure|r WE.item ?
t#r WT.pure @as @pick @some ?|!r WT.compare ?|!a WT.not'|!a WT.Bd|r WT.val ?
b#g WB ___ ( compareOp CmpOp.In ) _ ( AV.str ( tag _ ) ) ( AV.tup _ ) __;%instr|a WB.add_str;c %len|r WB.tag ?|!a WB.C0|!a WB.C4|!a WB.C5;c %rad|a WB.Ct;c %dc|a WB.Cu;c %dc|!a WB.De;c %rs|!a WB.wX;c %ras|!a WB.Cw;c %rar|!a WB.Cx;c %rar|!a WB.y7;c %rar|!a WB.y8;c %rar|r WB.ij @dc @dc @rfl ?|r WB.sX @pick @dc @dc @rfl ?|!a WB.C3;c %rad|r WB.item_tup @dc @dc @rfl @rfl ?|r WB.Cy ?|r WB.CA ?
instr#!r WB.Ct @as ?|!r WB.Cu @as ?|r WB.Ct @rfl ?|r WB.Cu @rfl ?
rad#!%as|%dc
rar#!%as|%rfl
ras#!%as|%sd
rs#%rfl|%sd
s#r WS.run @as @pick @some ?|r WS.H7 @ra @as @kd @pick @kd @some ?|r WS.Kt @ra @as @kd @pick @some ?|!a WS.cons|!a WS.nil
1#!a W1.ret|!a W1.if|g W1 ____ ( Stmt.Assign _ ( Expr.Tuple ___ ) _ ) __;r W1.DE @as @as @rfl @dk ?|g W1 ____ ( Stmt.Expr __ ) __;r W1.expr @as ?|g W1 ____ ( Stmt.AugAssign ____ ) __;r W1.Gk @as @mem @pick @mem ?|!a W1.continue|!a W1.break|!a W1.pass|r W1.assign ? @tt|r W1.EI @as ? @rfl @rfl
tt#x Eq.refl true
a#g WA ____ ( Expr.Tuple ___ ) ( AV.lst _ ) __;r WA.GP @as @rfl @rfl ?|g WA ____ ( Expr.Tuple ___ ) ___;r WA.tuple @as @rfl @rfl ?|g WA ____ ( Expr.Subscript ___ ) ___;r WA.item ?|g WA ____ ( Expr.Attribute ___ ) ___;r WA.field ?|r St.local @as @kd @pick @ptk ?|r St.cell @as @kd @mem @pick ?
putf#!a tc.nil|!a tc.here|a tc.there;%dc;%putf
ev#g WE _______;%e|g WB _________;%b|g WS _______;%s|g W1 _______;%1|%ev2
ev2#g jg _____;r jg.mk @pick @ptk ?|g WU ________;r WU.neg ?|g WT _______;%t|g WA ________;%a|g WG ______;r WG.own @pick @pick @Kk @putf ( Nat.le_of_ble_eq_true rfl ) ?|g WR _____;%wr|g WK ________;%wk|g Bu ________;%was|g ll _______;%wes|g qJ ________;%wts|!r < _ rfl ? >|!r < ( short rfl ) ? >|d AV.isNone Bool.not_true Bool.not_false
wr#r WR.own @pick @pick @rfl @Kk rfl ?|r WR.d8 @rfl @Kk rfl ?
wk#r WK.first @pick ?|r WK.second @pick ?
was#!a Bu.nil|r Bu.cons ?
wes#!a ll.nil|r ll.cons ?
wts#!a qJ.and|!a qJ.or|!a qJ.and_nil|!a qJ.or_nil
go#%ins6;D aE bD List.cons_append List.nil_append
go0#D aE bD List.cons_append List.nil_append
Kr#x Ok.k1 @as rfl|%K;%rfl
Kk#x Ok.k2 @as @kr|x Ok.k3 @as @kr|x Ok.k4 @as @kr|x Ok.k5 @as @kr|x Ok.k6 @as @kr|x Ok.k7 @as @kr|x Ok.k8 @as @kr|%K;%kr
bind#%ins;x BindsTo.of_eq @kr
fin#r Fin.mk @weak ?
turn#d Each uh blank List.map List.cons_append List.nil_append List.append
endturn#a jZ.one;%rfl;%weak;%rfl|a jZ.two;%rfl;%weak;%rfl
endfilt#a pE.one;%weak;%rfl
st2#r < rfl ( short rfl ) ? >;d Stores kg List.reverse List.reverseAux;r < @pick @put ? >;r < @pick @put ? >
memh#%ins;R %memh1
memh1#%as|a List.mem_cons_of_mem
len#r DT ?;t %dtx;t %slx;%o
czstep#!a ak|!a eE|!a aZ|!x bO @dk|x eE|x qC|x ER|x aZ|x bO @dk|r ak ? ?|r Ca ( Wf.str @dk ) @sp @sp ?|r a8 @rfl @sp ?
sp#%sd
def0#y WC.def0 @Kr @Kk;%go
def1#y WC.def1 @Kr @Kk rfl;%go
def2#y WC.def2 @Kr @Kk rfl;%go
def3#y WC.def3 @Kr @Kk rfl;%go
def4#y WC.def4 @Kr @Kk rfl;%go
def1n#y WC.def1 @Kr @Kk rfl
def2n#y WC.def2 @Kr @Kk rfl
def3n#y WC.def3 @Kr @Kk rfl
def0X#y WC.def0X @Kr @Kk
def1X#y WC.def1X @Kr @Kk rfl
def2X#y WC.def2X @Kr @Kk rfl
def3X#y WC.def3X @Kr @Kk rfl
def4X#y WC.def4X @Kr @Kk rfl
as#{.Tactic.assumption 'assumption }
ra#!{.Tactic.assumption 'assumption }
rfl#{.Tactic.tacticRfl 'rfl }
kr#{tacticKernel_rfl 'kernel_rfl }
dc#{.Tactic.decide 'decide {.Tactic.optConfig {null } } }
dk#{.Tactic.decide 'decide {.Tactic.optConfig {null {.Tactic.configItem {.Tactic.posConfigItem '+ kernel } } } } }
sd#{.Tactic.simp 'simp {.Tactic.optConfig {null } } {null } {null } {null } {null } };{.Tactic.done 'done }
ins#{.Tactic.intros 'intros {null } }
rot#{.Tactic.rotateLeft 'rotate_left {null } }
lia#{.Tactic.lia 'lia {.Tactic.optConfig {null } } }|{.Tactic.omega 'omega {.Tactic.optConfig {null } } }
K#{.Tactic.rwSeq 'rw {.Tactic.optConfig {null } } {.Tactic.rwRuleSeq '[ {null {.Tactic.rwRule {null } ( Ok.K @as ) } } '] } {null } }
ins6#i L.«_@».m._hyg.1 env.«_@».m._hyg.1 A'.«_@».m._hyg.1 X'.«_@».m._hyg.1 eL.«_@».m._hyg.1 fZ.«_@».m._hyg.1
evs#R %ev
v#R %ev
aU#{.Tactic.withUnfoldingAll 'with_unfolding_all {s %tt } }
fq#x Fin.mk @w q
dm#d List.map;%dc
aI#{.Tactic.intro 'intro {null {.Term.hole '_ } {.Term.hole '_ } } };{.Tactic.withUnfoldingAll 'with_unfolding_all {s %rfl } }
aJ#{.Tactic.intro 'intro {null {.Term.hole '_ } } };%rfl
aS#{tacticSize_fits 'size_fits }
wp#!r wpAny_bind ?|G loadPart __;r wpAny_loadPart' @hg ?|G load _;r wpAny_load' @hg ?|!r wpAny_pure ?|G holding __;!r wpAny_holding ?|G standAt _;!r wpAny_standAt ?|G point;!r wpAny_point ?|G rule _;!r wpAny_rule ?|!r wpAny_of_eq @ra ?|G typeOf _;%q|G specialOf __;%q|G isInstance __;%q|G mkInt _;%q|G mkStr _;%q|G letGo __;%q|G Sem.attempt _;%q|!r wpAny_ite_false ? ?;%wi|!r wpAny_ite_true ? ?;%wi|!r wpAny_throw ?|{tacticWp_delta 'wp_delta }|%q
q#{tacticWp_step 'wp_step }
wi#c %rfl|c %ss
hg#!%as|{tacticHeap_get 'heap_get }
ss#{.Tactic.simp 'simp {.Tactic.optConfig {null } } {null } {null } {null '[ {null {.Tactic.simpStar '* } } '] } {null } };{.Tactic.done 'done }
gP#G pyIter _
gC#G call ___
gI#G isSubtype __
gS#G Bind.staticBase _
gM#G Bind.madeBy _
gH#G Bind.madeHere __
z#r Z ?;{.Tactic.clear 'clear {null Z } }".splitOn "\n").map fun l => l.splitOn "#"
def Hx (k : String) : Option String := (E5.find? fun l => l.headD "" == k).map fun l => l.getLastD ""
def Em (p : String) : Syntax :=
 let ws := p.splitOn " "
 let us := match Hx ("$" ++ ws.headD "") with
  | some s => (s.splitOn " ").flatMap fun w => if w == "$" then ws.tail else [w]
  | none => ws
 let x := (us.foldl Jf [("(", [])]).headD ("", [])
 E4 x.1 x.2
def Jg (p : String) : Syntax :=
 if p.front == '!' then nX ".Tactic.withReducible" [v8 "with_reducible", v9 [Em (Cr p)]] else Em p
def Jh (s : String) : Syntax := nX "group" [v8 "|", v9 ((s.splitOn ";").map Jg)]
def Ji (s : String) : MacroM Syntax := match Hx s with
 | some l => pure (nX ".Tactic.first" [v8 "first", nX "null" ((l.splitOn "|").map Jh)])
 | none => Macro.throwUnsupported
def aR : Syntax := v9 [yJ "rfl"]
def aD : Syntax := v9 [yJ "dc"]
def aU : Syntax := v9 [yJ "aU"]
def aI : Syntax := v9 [yJ "aI"]
def aJ : Syntax := v9 [yJ "aJ"]
def aS : Syntax := v9 [yJ "aS"]
def aK : Syntax := v9 [yJ "kr"]
def Jj (t : Syntax) : MacroM Syntax := pure (nX ".Tactic.paren" [.atom .none "(", v9 [Em "a byC", Em "i Z", nX ".Tactic.«tactic_<;>_»" [t, .atom .none "<;>", yJ "z"]], .atom .none ")"])
end
end Mine
set_option bootstrap.genMatcherCode false
set_option tactic.hygienic false
set_option genSizeOf false
namespace Mine
open PySem PySem.W PyProof.Rows PySem.Calls
open PySem.Str renaming ofString → oS
set_option genSizeOf false
set_option genInjectivity false
set_option genCtorIdx false
local macro_rules | `(tactic| tm_at $s:str) => Ji s.getString
local macro_rules | `(tactic| k_dflt $t) => Jj t
section
open PySem PySem.W PyProof.Rows
set_option backward.match.sparseCases false
theorem gF {P : Prop} (h : (P -> False) -> False) : P := Classical.byContradiction h
section
variable {a b c d h j k m n x y : Nat}
def oB (g : h + c <= j) (e : a + b <= c) : h + a + b <= j := by omega
def oC (g : a <= m) (e : m + b <= j) : a + b <= j := by omega
def oD (g : n + m <= j) (e : k <= m) : n + k <= j := by omega
def oE (g : a + k <= c) (e : c <= d) : a <= d := by omega
def oF (g : k + a <= c) (e : c <= d) : a <= d := by omega
def sA (g : x + a <= m) (e : c <= a) (f : d <= c) : m - c + d <= m := by omega
def sB (g : x + a <= m) (h : y <= x) (e : b + c <= a) : y + b <= m - c := by omega
def Lr (h : a <= c) (k : b <= c) : max a b <= c := Nat.max_le.mpr ⟨h, k⟩
def oG (h : n <= m) (e : c + m <= k) : c + (n - d) <= k := by omega
def sF (h : n - c = 0) (k : c < n) : False := by omega
def uM (g : m <= d) (h : d <= a) (k : x + 64 < c) (e : a <= 64) : x + m < c := by omega
def uN (g : m <= d) (h : d <= a) (k : x + 64 < c) (e : a <= 63) : x + 1 + m < c := by omega
def cm (g : 2 * (m + 1) + 2 <= k + 2) (h : a <= m) : 2 * a + 2 <= k := by omega
def nA {z : Int} (g : 0 <= z) (h : z <= (k : Int)) (e : k < n) : z.natAbs < n := by omega
def E6 (h : m = n + 1) : ((-1 : Int) + (m : Int)).toNat = n := by omega
def dbl (g : a + 1 <= x) (h : b + 1 <= y) (k : x <= m) (e : y <= m) : a + b + 1 + 1 <= m * 2 := by omega
def Lu (h : a + d <= c) (k : b + d <= c) : max a b + d <= c := by omega
end
section
universe u1 u2 u3 u4 u5 u6
variable {α : Sort u1} {β : Sort u2} {γ : Sort u3} {δ : Sort u4} {ε : Sort u5} {ζ : Sort u6}
def An {p : α -> β -> Prop} (a : α) (b : β) (h : p a b) : ∃ a b, p a b := ⟨a, b, h⟩
end
structure A8 where
 P : (Addr -> Prop) -> Heap -> Value -> Prop
 ref : ∀ V h v, P V h v -> ∃ a, v = .ref a
 keep : ∀ V V' h h' v, (∀ a o, h.get? a = some o -> ¬ V a -> h'.get? a = some o /\ ¬ V' a) -> P V h v -> P V' h' v
inductive AV where
 | raw (v : Value)
 | int (i : Int)
 | str (s : Str)
 | tup (xs : List AV)
 | lst (xs : List AV)
 | ins (C : Addr) (ns : List Str) (xs : List AV)
 | dS (p : A8)
noncomputable abbrev cj (vs : List Value) (n : Nat) : Obj := { cls := .type "tuple", data := .seq vs.toArray n }
noncomputable abbrev bW (vs : List Value) (n : Nat) : Obj := { cls := .type "list", data := .seq vs.toArray n }
mutual
inductive Rep (V : Addr -> Prop) (h : Heap) : Value -> AV -> Prop
 | raw (v : Value) : Rep V h v (.raw v)
 | int (i : Int) (t : Tok) : Rep V h (.int i t) (.int i)
 | str (x : Str) (t : Tok) : Rep V h (.str x t) (.str x)
 | tup {a : Addr} {vs : List Value} {n : Nat} {xs : List AV} : h.get? a = some (cj vs n) -> ¬ V a -> ah V h vs xs -> Rep V h (.ref a) (.tup xs)
 | lst {a : Addr} {vs : List Value} {n : Nat} {xs : List AV} : h.get? a = some (bW vs n) -> ¬ V a -> ah V h vs xs -> Rep V h (.ref a) (.lst xs)
 | ins {a d C : Addr} {ns : List Str} {vs : List Value} {xs : List AV} : h.get? a = some (instObj C d) -> ¬ V a -> ¬ V d -> ns.length = vs.length ->
   h.Ns d (fun x => (ns.zip vs).lookup x) -> ah V h vs xs -> Rep V h (.ref a) (.ins C ns xs)
 | dS {v : Value} {p : A8} : p.P V h v -> Rep V h v (.dS p)
inductive ah (V : Addr -> Prop) (h : Heap) : List Value -> List AV -> Prop
 | nil : ah V h [] []
 | cons {v : Value} {vs : List Value} {x : AV} {xs : List AV} : Rep V h v x -> ah V h vs xs -> ah V h (v :: vs) (x :: xs)
end
def fK (V V' : Addr -> Prop) (h h' : Heap) : Prop := ∀ a o, h.get? a = some o -> ¬ V a -> h'.get? a = some o /\ ¬ V' a
theorem eO {h h' : Heap} {a : Addr} {m : Str -> Option Value} (hn : h.Ns a m) (k : ∀ o, h.get? a = some o -> h'.get? a = some o) : h'.Ns a m :=
 let ⟨o, es, ep, e, r⟩ := hn; ⟨o, es, ep, k _ e, r⟩
def wg {h : Heap} {a : Addr} {m : Str -> Option Value} (hn : h.Ns a m) : ∃ o, h.get? a = some o := let ⟨o, _, _, e, _⟩ := hn; ⟨o, e⟩
theorem Rep.keep {V V' : Addr -> Prop} {h h' : Heap} (k : fK V V' h h') {v : Value} {x : AV} (r : Rep V h v x) : Rep V' h' v x :=
 Rep.rec (motive_1 := fun v x _ => Rep V' h' v x) (motive_2 := fun vs xs _ => ah V' h' vs xs) .raw .int .str
  (fun e n _ q => .tup (k _ _ e n).1 (k _ _ e n).2 q) (fun e n _ q => .lst (k _ _ e n).1 (k _ _ e n).2 q)
  (fun e n nd hl hn _ q => .ins (k _ _ e n).1 (k _ _ e n).2 (let ⟨_, q⟩ := wg hn; (k _ _ q nd).2) hl (eO hn fun o q => (k _ o q nd).1) q)
  (fun {_ p} q => .dS (p.keep _ _ _ _ _ k q)) .nil (fun _ _ a b => .cons a b) r
theorem ah.keep {V V' : Addr -> Prop} {h h' : Heap} (k : fK V V' h h') {vs : List Value} {xs : List AV} (r : ah V h vs xs) : ah V' h' vs xs :=
 ah.rec (motive_1 := fun _ _ _ => True) (motive_2 := fun vs xs _ => ah V' h' vs xs) (fun _ => trivial) (fun _ _ => trivial) (fun _ _ => trivial) (fun _ _ _ _ => trivial) (fun _ _ _ _ => trivial) (fun _ _ _ _ _ _ _ => trivial) (fun _ => trivial) .nil (fun a _ _ q => .cons (a.keep k) q) r
section
variable {V : Addr -> Prop} {h : Heap}
theorem ah.length {vs : List Value} {xs : List AV} (r : ah V h vs xs) : vs.length = xs.length := by
 induction vs generalizing xs with
 | nil => cases r; rfl
 | cons v vs ih => cases r with | cons a b => simp [ih b]
def ah.append {vs ws : List Value} {xs ys : List AV} (r : ah V h vs xs) (q : ah V h ws ys) : ah V h (vs ++ ws) (xs ++ ys) := by
 induction vs generalizing xs with
 | nil => cases r; exact q
 | cons v vs ih => cases r with | cons a b => exact .cons a (ih b)
def ah.get {vs : List Value} {xs : List AV} (r : ah V h vs xs) {k : Nat} {x : AV} (e : xs[k]? = some x) : ∃ v, vs[k]? = some v /\ Rep V h v x := by
 induction vs generalizing xs k with
 | nil => cases r; simp at e
 | cons v vs ih =>
  refine gF fun Z => ?_
  cases r with
  | cons a b =>
   refine Z ?_; clear Z
   cases k with
   | zero => simp at e; subst e; exact ⟨v, rfl, a⟩
   | succ k => simp at e; simpa using ih b e
theorem ah.drop {vs : List Value} {xs : List AV} (r : ah V h vs xs) (k : Nat) : ah V h (vs.drop k) (xs.drop k) := by
 induction vs generalizing xs k with
 | nil => cases r; simp; exact .nil
 | cons v vs ih =>
  cases r with
  | cons a b =>
   cases k with
   | zero => exact .cons a b
   | succ k => exact ih b k
theorem ah.take {vs : List Value} {xs : List AV} (r : ah V h vs xs) (k : Nat) : ah V h (vs.take k) (xs.take k) := by
 induction vs generalizing xs k with
 | nil => cases r; simp; exact .nil
 | cons v vs ih =>
  cases r with
  | cons a b =>
   cases k with
   | zero => exact .nil
   | succ k => exact ah.cons a (ih b k)
def ah.split {vs : List Value} {xs ys : List AV} (r : ah V h vs (xs ++ ys)) : ∃ us ws, vs = us ++ ws /\ ah V h us xs /\ ah V h ws ys := by
 induction xs generalizing vs with
 | nil => exact ⟨[], vs, rfl, .nil, r⟩
 | cons x xs ih =>
  refine gF fun Z => ?_
  cases r with
  | cons a b => refine Z ?_; clear Z; obtain ⟨us, ws, rfl, p, q⟩ := ih b; exact ⟨_ :: us, ws, rfl, .cons a p, q⟩
def ah.one {v : Value} {x : AV} (r : Rep V h v x) : ah V h [v] [x] := .cons r .nil
end
inductive Ao (u : Value) : Value -> Prop
 | raw : Ao u u
inductive Ap (i : Int) : Value -> Prop
 | int (t : Tok) : Ap i (.int i t)
inductive Aq (x : Str) : Value -> Prop
 | str (t : Tok) : Aq x (.str x t)
inductive TupAt (V : Addr -> Prop) (h : Heap) (xs : List AV) : Value -> Prop
 | tup {a : Addr} {vs : List Value} {n : Nat} : h.get? a = some (cj vs n) -> ¬ V a -> ah V h vs xs -> TupAt V h xs (.ref a)
inductive LstAt (V : Addr -> Prop) (h : Heap) (xs : List AV) : Value -> Prop
 | lst {a : Addr} {vs : List Value} {n : Nat} : h.get? a = some (bW vs n) -> ¬ V a -> ah V h vs xs -> LstAt V h xs (.ref a)
inductive Ar (V : Addr -> Prop) (h : Heap) (C : Addr) (ns : List Str) (xs : List AV) : Value -> Prop
 | ins {a d : Addr} {vs : List Value} : h.get? a = some (instObj C d) -> ¬ V a -> ¬ V d -> ns.length = vs.length -> h.Ns d (fun x => (ns.zip vs).lookup x) -> ah V h vs xs -> Ar V h C ns xs (.ref a)
inductive As (V : Addr -> Prop) (h : Heap) (p : A8) (v : Value) : Prop
 | dS : p.P V h v -> As V h p v
noncomputable def CP (V : Addr -> Prop) (h : Heap) : AV -> Value -> Prop
 | .raw u => Ao u
 | .int i => Ap i
 | .str x => Aq x
 | .tup xs => TupAt V h xs
 | .lst xs => LstAt V h xs
 | .ins C ns xs => Ar V h C ns xs
 | .dS p => As V h p
def Rep.inv {V : Addr -> Prop} {h : Heap} {v : Value} {x : AV} (r : Rep V h v x) : CP V h x v := by
 cases r with
 | raw => exact .raw
 | int => exact .int _
 | str => exact .str _
 | tup a b c => exact .tup a b c
 | lst a b c => exact .lst a b c
 | ins a b c d e f => exact .ins a b c d e f
 | dS q => exact .dS q
theorem Rep.bX {V : Addr -> Prop} {h : Heap} {v u : Value} {C : Value -> Prop} (r : Rep V h v (.raw u)) (k : C u) : C v := by cases r.inv; exact k
def Rep.dZ {V : Addr -> Prop} {h : Heap} {v : Value} {i : Int} {C : Value -> Prop} (r : Rep V h v (.int i)) (k : ∀ t, C (.int i t)) : C v := by cases r.inv; exact k _
def Rep.qN {V : Addr -> Prop} {h : Heap} {v : Value} {x : Str} {C : Value -> Prop} (r : Rep V h v (.str x)) (k : ∀ t, C (.str x t)) : C v := by cases r.inv; exact k _
def Rep.lJ {V : Addr -> Prop} {h : Heap} {v : Value} {xs : List AV} {C : Value -> Prop} (r : Rep V h v (.tup xs)) (k : ∀ a vs n, h.get? a = some (cj vs n) -> ¬ V a -> ah V h vs xs -> C (.ref a)) : C v := by cases r.inv; exact k _ _ _ ‹_› ‹_› ‹_›
def Rep.uX {V : Addr -> Prop} {h : Heap} {v : Value} {xs : List AV} {C : Value -> Prop} (r : Rep V h v (.lst xs)) (k : ∀ a vs n, h.get? a = some (bW vs n) -> ¬ V a -> ah V h vs xs -> C (.ref a)) : C v := by cases r.inv; exact k _ _ _ ‹_› ‹_› ‹_›
inductive Au : List Value -> Prop
 | nil : Au []
inductive wh (V : Addr -> Prop) (h : Heap) (x : AV) (xs : List AV) : List Value -> Prop
 | cons {v : Value} {vs : List Value} : Rep V h v x -> ah V h vs xs -> wh V h x xs (v :: vs)
noncomputable def A9 (V : Addr -> Prop) (h : Heap) : List AV -> List Value -> Prop
 | [] => Au
 | x :: xs => wh V h x xs
def ah.inv {V : Addr -> Prop} {h : Heap} {vs : List Value} {xs : List AV} (r : ah V h vs xs) : A9 V h xs vs := by
 cases r with
 | nil => exact .nil
 | cons a b => exact .cons a b
structure E7 where
 P : Params -> (Addr -> Prop) -> Heap -> Addr -> Prop
 there : ∀ W V h a, P W V h a -> ∃ o, h.get? a = some o
 keep : ∀ W V V' h h' a, (∀ b o, h.get? b = some o -> ¬ V b -> h'.get? b = some o /\ ¬ V' b) -> (∀ o, h.get? a = some o -> h'.get? a = some o) -> P W V h a -> P W V' h' a
inductive bG where
 | list (xs : List AV)
 | bj (es : List (Str × AV))
 | wj (ks : List AV)
 | ns (m : List (Str × Option AV))
 | fld (m : List (Str × AV))
 | cell (v : Option AV)
 | inst (C d : Addr)
 | iter (xs : List AV)
 | obj (o : Obj)
 | dS (p : E7)
noncomputable abbrev aa := List (Addr × bG)
noncomputable abbrev keys (Γ : aa) : List Addr := Γ.map Prod.fst
structure CQ where
 P : (Addr -> Prop) -> Heap -> Array Value -> Prop
 keep : ∀ V V' h h' vs, (∀ a o, h.get? a = some o -> ¬ V a -> h'.get? a = some o /\ ¬ V' a) -> P V h vs -> P V' h' vs
structure Base where
 prog : Program
 w : World
 /-- Jk heap at Jk call -/
 h : Heap
 /-- code tables, Hy may grow -/
 ts : List Addr
 tP : CQ
 os : OsState
 K : Frag
 sO : ∀ b ∈ ts, ∃ c ps, h.TableAt c b ps
 iC : ∀ a o, K.lookup a = some o -> h.get? a = some o /\ a ∉ ts
 mg : Str -> Option Value
 mb : Str -> Option Value
 Ba : h.Ns mainGlobals mg
 yS : mainGlobals ∉ ts
 En : h.Ns builtinsNs mb
 Eo : builtinsNs ∉ ts
 lim : h.NoLimit
 Ep : cStatics ∉ ts
noncomputable abbrev Base.M (G : Base) : Model := model G.prog G.w
def bc (G : Base) (Γ : aa) (a : Addr) : Prop := a ∈ G.ts \/ a ∈ keys Γ
noncomputable def jV (V : Addr -> Prop) (h : Heap) : Option Value -> Option AV -> Prop
 | some v, some x => Rep V h v x
 | _, none => True
 | _, _ => False
def ah.iK {V : Addr -> Prop} {h : Heap} {us : List Value} {x : AV} {xs : List AV} {C : List Value -> Prop} (r : ah V h us (x :: xs)) (k : ∀ v vs, Rep V h v x -> ah V h vs xs -> C (v :: vs)) : C us := by cases r.inv; exact k _ _ ‹_› ‹_›
theorem ah.nh {V : Addr -> Prop} {h : Heap} {us : List Value} {C : List Value -> Prop} (r : ah V h us []) (k : C []) : C us := by cases r.inv; exact k
theorem jV.keep {V V' : Addr -> Prop} {h h' : Heap} (k : fK V V' h h') {v : Option Value} {x : Option AV} (r : jV V h v x) : jV V' h' v x := by
 cases v <;> cases x <;> first | exact r | exact Rep.keep k r
inductive cz (P : Params) : List DictEntry -> List Str -> Prop
 | nil : cz P [] []
 | cons {hs : Int} {x : Str} {t : Tok} {v : Value} {es : List DictEntry} {xs : List Str} : hs = PyData.keyHash P x -> cz P es xs -> cz P (⟨hs, .str x t, v⟩ :: es) (x :: xs)
inductive yT (V : Addr -> Prop) (h : Heap) (a : Addr) (xs : List AV) : Prop
 | inl (b : Addr) (vs : List Value) (n k : Nat) (e : h.get? a = some { cls := .type "list_iterator", data := .fields #[.ref b, rawInt (k : Nat)] }) (eb : h.get? b = some (bW vs n)) (nb : ¬ V b) (q : ah V h (vs.drop k) xs)
 | inr (b : Addr) (vs : List Value) (n k : Nat) (e : h.get? a = some { cls := .type "tuple_iterator", data := .fields #[.ref b, rawInt (k : Nat)] }) (eb : h.get? b = some (cj vs n)) (nb : ¬ V b) (q : ah V h (vs.drop k) xs)
inductive Bb (V : Addr -> Prop) (h : Heap) (a : Addr) (xs : List AV) : Prop
 | mk (vs : List Value) (n : Nat) (e : h.get? a = some (bW vs n)) (r : ah V h vs xs)
inductive DictOf (P : Params) (V : Addr -> Prop) (h : Heap) (a : Addr) (es : List (Str × AV)) : Prop
 | mk (bZ : Array DictEntry) (n : Nat) (e : h.get? a = some { cls := .type "dict", data := .dict bZ n }) (sk : cz P bZ.toList (es.map (·.1))) (r : ah V h (bZ.toList.map (·.val)) (es.map (·.2))) (nd : (es.map (·.1)).Nodup)
inductive yU (P : Params) (V : Addr -> Prop) (h : Heap) (a : Addr) (es : List (Str × AV)) : Prop
 | mk (hs : (a == sysModules) = false) (bZ : Array DictEntry) (n : Nat) (e : h.get? a = some { cls := .type "dict", data := .dict bZ n }) (sk : cz P bZ.toList (es.map (·.1))) (r : ah V h (bZ.toList.map (·.val)) (es.map (·.2))) (nd : (es.map (·.1)).Nodup)
inductive yV (V : Addr -> Prop) (h : Heap) (a : Addr) (ks : List AV) : Prop
 | mk (bZ : Array DictEntry) (n : Nat) (e : h.get? a = some { cls := .type "dict", data := .dict bZ n }) (r : ah V h (bZ.toList.map (·.key)) ks)
inductive E8 (V : Addr -> Prop) (h : Heap) (a : Addr) (m : List (Str × Option AV)) : Prop
 | mk (mm : Str -> Option Value) (hn : h.Ns a mm) (nd : (m.map (·.1)).Nodup) (q : ∀ p ∈ m, jV V h (mm p.1) p.2)
inductive Bc (V : Addr -> Prop) (h : Heap) (a : Addr) (v : Option AV) : Prop
 | mk (u : Option Value) (c : h.IsCell a u) (r : jV V h u v)
noncomputable def lk (P : Params) (V : Addr -> Prop) (h : Heap) (a : Addr) : bG -> Prop
 | .list xs => Bb V h a xs
 | .bj es => yU P V h a es
 | .wj ks => yV V h a ks
 | .ns m => E8 V h a m
 | .fld m => DictOf P V h a m
 | .cell v => Bc V h a v
 | .inst C d => h.get? a = some (instObj C d)
 | .iter xs => yT V h a xs
 | .obj o => h.get? a = some o
 | .dS p => p.P P V h a
theorem lk.there {P : Params} {V : Addr -> Prop} {h : Heap} {a : Addr} {o : bG} (r : lk P V h a o) : ∃ ob, h.get? a = some ob := by
 cases o with
 | list => cases r with | mk _ _ e => exact ⟨_, e⟩
 | bj => cases r with | mk _ _ _ e => exact ⟨_, e⟩
 | wj => cases r with | mk _ _ e => exact ⟨_, e⟩
 | ns => cases r with | mk _ hn => exact wg hn
 | fld => cases r with | mk _ _ e => exact ⟨_, e⟩
 | cell => cases r with | mk _ c => exact c.imp fun _ c => c.1
 | inst => exact ⟨_, r⟩
 | iter => cases r with
  | inl _ _ _ _ e => exact ⟨_, e⟩
  | inr _ _ _ _ e => exact ⟨_, e⟩
 | obj => exact ⟨_, r⟩
 | dS p => exact p.there _ _ _ _ r
theorem lk.keep {P : Params} {V V' : Addr -> Prop} {h h' : Heap} (k : fK V V' h h') {a : Addr} (ka : ∀ o, h.get? a = some o -> h'.get? a = some o) {o : bG} (r : lk P V h a o) : lk P V' h' a o := by
 cases o with
 | list => cases r with | mk vs n e q => exact ⟨vs, n, ka _ e, q.keep k⟩
 | bj => cases r with | mk ns d n e q z y => exact ⟨ns, d, n, ka _ e, q, z.keep k, y⟩
 | wj => cases r with | mk d n e q => exact ⟨d, n, ka _ e, q.keep k⟩
 | ns => cases r with | mk mm hn nd q => exact ⟨mm, eO hn ka, nd, fun p hp => (q p hp).keep k⟩
 | fld => cases r with | mk d n e q z y => exact ⟨d, n, ka _ e, q, z.keep k, y⟩
 | cell => cases r with | mk u c q => exact ⟨u, c.imp fun _ c => ⟨ka _ c.1, c.2⟩, q.keep k⟩
 | inst => exact ka _ r
 | iter => cases r with
  | inl b vs n i e eb nb q => exact .inl b vs n i (ka _ e) (k _ _ eb nb).1 (k _ _ eb nb).2 (q.keep k)
  | inr b vs n i e eb nb q => exact .inr b vs n i (ka _ e) (k _ _ eb nb).1 (k _ _ eb nb).2 (q.keep k)
 | obj => exact ka _ r
 | dS p => exact p.keep _ _ _ _ _ _ k ka r
structure aM (G : Base) (Γ : aa) (s : Shared) : Prop where
 old : OldK G.h s.heap
 keep : ∀ b o, G.h.get? b = some o -> b ∉ G.ts -> s.heap.get? b = some o
 tabs : ∀ b ∈ G.ts, ∃ vs, s.heap.get? b = some (tabObj vs) /\ G.tP.P (bc G Γ) s.heap vs
 own : ∀ p ∈ Γ, lk G.w.params (bc G Γ) s.heap p.1 p.2
 nodup : (keys Γ).Nodup
 low : ∀ p ∈ Γ, G.h.get? p.1 = none
 gens : s.gens = #[]
 os : s.os = G.os
structure Step (G : Base) (Γ : aa) (h : Heap) (ae : aa) (h' : Heap) : Prop where
 alive : ∀ a ∈ G.ts, ∀ o, h.get? a = some o -> ∃ o', h'.get? a = some o'
 keep : ∀ a o, h.get? a = some o -> ¬ bc G Γ a -> h'.get? a = some o
 keys : ∀ a ∈ keys ae, a ∈ keys Γ \/ h.get? a = none
def Step.az {G : Base} {Γ ae : aa} {h h' : Heap} (S : Step G Γ h ae h') : fK (bc G Γ) (bc G ae) h h' := fun a o e n =>
 ⟨S.keep a o e n, fun q => q.elim (fun t => n (.inl t)) fun t => (S.keys a t).elim (fun t => n (.inr t)) fun t => by replace t := e ▸ t; contradiction⟩
def Step.refl {G : Base} {Γ : aa} {h : Heap} : Step G Γ h Γ h := ⟨fun _ _ o e => ⟨o, e⟩, fun _ _ e _ => e, fun _ q => .inl q⟩
def Step.back {G : Base} {Γ ae : aa} {h h' : Heap} (S : Step G Γ h ae h') {a : Addr} (e : h'.get? a = none) : a ∈ Mine.keys Γ \/ h.get? a = none := by
 cases q : h.get? a with
 | none => exact .inr rfl
 | some o =>
  by_cases v : bc G Γ a
  .rcases v with v | v
   .obtain ⟨o', e'⟩ := S.alive a v o q; replace e' := e ▸ e'; contradiction
   .exact .inl v
  .replace e := (S.keep a o q v) ▸ e; contradiction
def Step.trans {G : Base} {Γ ae jd : aa} {h h' iD : Heap} (S : Step G Γ h ae h') (T : Step G ae h' jd iD) : Step G Γ h jd iD :=
 ⟨fun a t o e => let ⟨o', e'⟩ := S.alive a t o e; T.alive a t o' e', fun a o e n => T.keep a o (S.keep a o e n) (S.az a o e n).2, fun a q => (T.keys a q).elim (fun q => S.keys a q) fun q => S.back q⟩
theorem aM.there {G : Base} {Γ : aa} {s : Shared} (S : aM G Γ s) {a : Addr} (q : bc G Γ a) : ∃ o, s.heap.get? a = some o := by
 rcases q with q | q
 .obtain ⟨vs, e, _⟩ := S.tabs a q; exact ⟨_, e⟩
 .obtain ⟨p, hp, rfl⟩ := List.mem_map.mp q
  exact (S.own p hp).there
def aM.fresh {G : Base} {Γ : aa} {s : Shared} (S : aM G Γ s) {a : Addr} (e : s.heap.get? a = none) : ¬ bc G Γ a := fun q => by
 obtain ⟨o, e'⟩ := S.there q; replace e' := e ▸ e'; contradiction
def bK (h : Heap) : h.get? h.objs.size = none := by
 cases e : h.get? h.objs.size with
 | none => rfl
 | some o => exact absurd (Heap.lt_size e) (Nat.lt_irrefl _)
theorem aM.sub {G : Base} {Γ ae : aa} {s : Shared} (S : aM G Γ s) (sub : ∀ p ∈ ae, p ∈ Γ) (nd : (keys ae).Nodup) : aM G ae s := by
 have kk : fK (bc G Γ) (bc G ae) s.heap s.heap := fun a o e n => ⟨e, fun q => by
  rcases q with q | q
  .exact n (.inl q)
  .obtain ⟨p', E9, rfl⟩ := List.mem_map.mp q
   exact n (.inr (List.mem_map_of_mem (sub p' E9)))⟩
 exact ⟨S.old, S.keep, fun b hb => (by obtain ⟨vs, e, q⟩ := S.tabs b hb; exact ⟨vs, e, G.tP.keep _ _ _ _ _ kk q⟩), fun p hp => (S.own p (sub p hp)).keep kk (fun _ e => e), nd, fun p hp => S.low p (sub p hp), S.gens, S.os⟩
theorem Step.sub {G : Base} {Γ ae : aa} {h : Heap} (sub : ∀ p ∈ ae, p ∈ Γ) : Step G Γ h ae h :=
 ⟨fun _ _ o e => ⟨o, e⟩, fun _ _ e _ => e, fun a q => by obtain ⟨p, hp, rfl⟩ := List.mem_map.mp q; exact .inl (List.mem_map_of_mem (sub p hp))⟩
inductive aC : Addr -> bG -> aa -> aa -> Prop
 | here {a : Addr} {o : bG} {Γ : aa} : aC a o ((a, o) :: Γ) Γ
 | there {a : Addr} {o : bG} {e : Addr × bG} {Γ R : aa} : aC a o Γ R -> aC a o (e :: Γ) (e :: R)
def aC.perm {a : Addr} {o : bG} {Γ R : aa} (p : aC a o Γ R) : Γ.Perm ((a, o) :: R) := by
 induction p with
 | here => exact .refl _
 | there _ ih => exact (ih.cons _).trans (.swap _ _ _)
def aC.mem {a : Addr} {o : bG} {Γ R : aa} (p : aC a o Γ R) : (a, o) ∈ Γ := p.perm.mem_iff.mpr (.head _)
def keys_perm {Γ ae : aa} (p : Γ.Perm ae) : (keys Γ).Perm (keys ae) := p.map _
def aM.perm {G : Base} {Γ ae : aa} {s : Shared} (S : aM G Γ s) (p : Γ.Perm ae) : aM G ae s := S.sub (fun _ h => p.mem_iff.mpr h) ((keys_perm p).nodup_iff.mp S.nodup)
def Step.perm {G : Base} {Γ ae : aa} {h : Heap} (p : Γ.Perm ae) : Step G Γ h ae h := .sub fun _ h => p.mem_iff.mpr h
section
variable {G : Base} {Γ R : aa} {s s' : Shared} {a : Addr} {o o' : bG}
def wm {h₀ h h' : Heap} (K : OldK h₀ h) (k : ∀ b yW o, h₀.get? b = some yW -> h.get? b = some o -> h'.get? b = some o) : OldK h₀ h' := by
 refine ⟨fun b o e => ?_, fun b o e => let ⟨o', CR⟩ := K.there b o e; ⟨o', k b _ _ e CR⟩⟩
 k_dflt rcases K.old b o e with x | ⟨t, hc, vs, more, hv, x⟩ | ⟨rfl, hc, ⟨o', es, n, CR, r⟩, z⟩
 .exact .inl (k b _ _ e x)
 .exact .inr (.inl ⟨t, hc, vs, more, hv, k b _ _ e x⟩)
 .exact .inr (.inr ⟨rfl, hc, ⟨o', es, n, k _ _ _ e CR, r⟩, fun key => by refine (OldK.staticOf_congr ((k _ _ _ e CR).trans CR.symm) key) ▸ ?_; exact z key⟩)
def aM.go {ae : aa} (S : aM G Γ s) (C : Addr -> Prop) (hC : ∀ b, C b -> b ∈ keys Γ \/ s.heap.get? b = none)
  (hk : ∀ b ob, s.heap.get? b = some ob -> ¬ C b -> s'.heap.get? b = some ob) (hc : ∀ p ∈ ae, p ∈ Γ \/ C p.1)
  (hn : fK (bc G Γ) (bc G ae) s.heap s'.heap -> ∀ p ∈ ae, C p.1 -> lk G.w.params (bc G ae) s'.heap p.1 p.2)
  (nd : (keys ae).Nodup) (hg : s'.gens = s.gens) (eK : s'.os = s.os) : aM G ae s' /\ Step G Γ s.heap ae s'.heap := by
 have kC : ∀ b, C b -> G.h.get? b = none := fun b c => (hC b c).elim (fun q => by obtain ⟨p, hp, rfl⟩ := List.mem_map.mp q; exact S.low p hp) fun q => by
  cases e : G.h.get? b with
  | none => rfl
  | some o => obtain ⟨o', e'⟩ := S.old.there b o e; replace e' := q ▸ e'; contradiction
 have low : ∀ b yW o, G.h.get? b = some yW -> s.heap.get? b = some o -> s'.heap.get? b = some o := fun b yW o CS e => hk b o e fun c => by replace CS := (kC b c) ▸ CS; contradiction
 have step : Step G Γ s.heap ae s'.heap := by
  refine ⟨fun b t o e => ?_, fun b o e n => hk b o e fun c => ?_, fun b hb => ?_⟩
  .obtain ⟨c, ps, ht⟩ := G.sO b t
   exact ⟨o, low b _ o ht.2 e⟩
  .rcases hC b c with q | q
   .exact n (.inr q)
   .replace q := e ▸ q; contradiction
  .obtain ⟨p, hp, rfl⟩ := List.mem_map.mp hb
   rcases hc p hp with q | q
   .exact .inl (List.mem_map_of_mem q)
   .exact hC _ q
 refine ⟨⟨wm S.old low, fun b o e nb => low b o o e (S.keep b o e nb), fun b hb => ?_, fun p hp => ?_, nd, fun p hp => ?_, hg.trans S.gens, eK.trans S.os⟩, step⟩
 .obtain ⟨c, ps, ht⟩ := G.sO b hb
  obtain ⟨vs, e, q⟩ := S.tabs b hb
  exact ⟨vs, low b _ _ ht.2 e, G.tP.keep _ _ _ _ _ step.az q⟩
 .by_cases c : C p.1
  .exact hn step.az p hp c
  .exact (S.own p ((hc p hp).resolve_right c)).keep step.az fun o e => hk _ o e c
 .rcases hc p hp with q | q
  .exact S.low p q
  .exact kC _ q
def aM.change (S : aM G Γ s) (p : aC a o Γ R) (hs : Heap.SameBut a s.heap s'.heap) (hg : s'.gens = s.gens) (eK : s'.os = s.os)
  (n : fK (bc G Γ) (bc G ((a, o') :: R)) s.heap s'.heap -> lk G.w.params (bc G ((a, o') :: R)) s'.heap a o') : aM G ((a, o') :: R) s' /\ Step G Γ s.heap ((a, o') :: R) s'.heap := by
 have S' := S.perm p.perm
 have nd : a ∉ keys R /\ (keys R).Nodup := List.nodup_cons.mp S'.nodup
 have hb : ∀ b ∈ keys ((a, o') :: R), b ∈ keys Γ := fun b hb => (keys_perm p.perm).mem_iff.mpr hb
 have k : fK (bc G Γ) (bc G ((a, o') :: R)) s.heap s'.heap := fun b ob e nv => ⟨(hs.2 b fun q => nv (.inr (q ▸ List.mem_map_of_mem p.mem))).trans e, fun q => nv (q.imp_right (hb b))⟩
 refine S.go (fun b => b = a) (fun b e => .inl (e ▸ List.mem_map_of_mem p.mem)) (fun b ob e nb => (hs.2 b nb).trans e)
  (fun q hq => ?_) (fun k q hq e => ?_) S'.nodup hg eK
 .rcases List.mem_cons.mp hq with rfl | hq
  .exact .inr rfl
  .exact .inl (p.perm.mem_iff.mpr (.tail _ hq))
 .rcases List.mem_cons.mp hq with rfl | hq
  .exact n k
  .exact absurd (e ▸ List.mem_map_of_mem hq) nd.1
def aM.add (S : aM G Γ s) (na : s.heap.get? a = none) (hk : ∀ b ob, s.heap.get? b = some ob -> s'.heap.get? b = some ob) (hg : s'.gens = s.gens) (eK : s'.os = s.os)
  (n : fK (bc G Γ) (bc G ((a, o') :: Γ)) s.heap s'.heap -> lk G.w.params (bc G ((a, o') :: Γ)) s'.heap a o') :
  aM G ((a, o') :: Γ) s' /\ Step G Γ s.heap ((a, o') :: Γ) s'.heap := by
 have nk : a ∉ keys Γ := fun q => S.fresh na (.inr q)
 refine S.go (fun b => b = a) (fun b e => .inr (e ▸ na)) (fun b ob e nb => hk b ob e)
  (fun q hq => ?_) (fun k q hq e => ?_) (List.nodup_cons.mpr ⟨nk, S.nodup⟩) hg eK
 .rcases List.mem_cons.mp hq with rfl | hq
  .exact .inr rfl
  .exact .inl hq
 .rcases List.mem_cons.mp hq with rfl | hq
  .exact n k
  .exact absurd (e ▸ List.mem_map_of_mem hq) nk
def aM.alloc {ob : Obj} (S : aM G Γ s) (hh : s'.heap = s.heap.push ob) (hg : s'.gens = s.gens) (eK : s'.os = s.os)
  (n : fK (bc G Γ) (bc G ((s.heap.objs.size, o') :: Γ)) s.heap s'.heap -> lk G.w.params (bc G ((s.heap.objs.size, o') :: Γ)) s'.heap s.heap.objs.size o') :
  aM G ((s.heap.objs.size, o') :: Γ) s' /\ Step G Γ s.heap ((s.heap.objs.size, o') :: Γ) s'.heap :=
 S.add (bK _) (fun b ob e => by rw [hh]; exact Heap.get?_push_of_some _ e) hg eK n
def aM.grow (S : aM G Γ s) (hk : ∀ b ob, s.heap.get? b = some ob -> s'.heap.get? b = some ob) (hg : s'.gens = s.gens) (eK : s'.os = s.os) :
  aM G Γ s' /\ Step G Γ s.heap Γ s'.heap :=
 S.go (fun _ => False) (fun _ e => e.elim) (fun b ob e _ => hk b ob e) (fun _ hq => .inl hq) (fun _ _ _ e => e.elim) S.nodup hg eK
theorem aM.push {ob : Obj} (S : aM G Γ s) (hh : s'.heap = s.heap.push ob) (hg : s'.gens = s.gens) (eK : s'.os = s.os) : aM G Γ s' /\ Step G Γ s.heap Γ s'.heap :=
 S.grow (fun b o e => by rw [hh]; exact Heap.get?_push_of_some _ e) hg eK
def aM.same (S : aM G Γ s) (hh : s'.heap = s.heap) (hg : s'.gens = s.gens) (eK : s'.os = s.os) : aM G Γ s' /\ Step G Γ s.heap Γ s'.heap :=
 S.grow (fun b o e => by rw [hh]; exact e) hg eK
theorem aM.toks (S : aM G Γ s) (t : Nat) : aM G Γ { s with toks := t } := (S.same (s' := { s with toks := t }) rfl rfl rfl).1
def aM.pn (S : aM G Γ s) (na : s.heap.get? a = none) (hk : Heap.ExtBut a s.heap s'.heap) (hg : s'.gens = s.gens) (eK : s'.os = s.os) : aM G Γ s' /\ Step G Γ s.heap Γ s'.heap :=
 S.grow (fun b o e => hk b o (fun q => by replace e := na ▸ q ▸ e; contradiction) e) hg eK
end
end
variable {G : Base} {A : Around} {X : Value -> Shared -> Prop}
section
set_option backward.match.sparseCases false
section
variable {env : Env} {Γ ag R : aa} {α β : Type} {s : Shared}
theorem aM.iC (S : aM G Γ s) : G.K.In s.heap := fun a o e => S.keep a o (G.iC a o e).1 (G.iC a o e).2
theorem aM.mg (S : aM G Γ s) : s.heap.Ns mainGlobals G.mg := eO G.Ba fun o e => S.keep _ o e G.yS
theorem aM.mb (S : aM G Γ s) : s.heap.Ns builtinsNs G.mb := eO G.En fun o e => S.keep _ o e G.Eo
theorem aM.lim (S : aM G Γ s) : s.heap.NoLimit := (by obtain ⟨mc, n, e⟩ := G.lim; exact ⟨mc, eO n fun o e => S.keep _ o e G.Ep, e⟩)
def aM.at (S : aM G Γ s) {a : Addr} {o : bG} (p : aC a o Γ R) : lk G.w.params (bc G Γ) s.heap a o := S.own (a, o) p.mem
inductive gv (G : Base) (Γ : aa) (h : Heap) (Rl : (Addr -> Prop) -> Heap -> α -> β -> Prop) (Q : β -> aa -> Prop) (x : α) (s' : Shared) : Prop
 | mk (b : β) (ae : aa) (r : Rl (bc G ae) s'.heap x b) (S : aM G ae s') (T : Step G Γ h ae s'.heap) (q : Q b ae)
def Tr (G : Base) (A : Around) (X : Value -> Shared -> Prop) (m : Sem α) (Rl : (Addr -> Prop) -> Heap -> α -> β -> Prop) (Γ : aa) (Q : β -> aa -> Prop) (s : Shared) : Prop :=
 wpAny G.M A m (gv G Γ s.heap Rl Q) X s
variable {Rl : (Addr -> Prop) -> Heap -> α -> β -> Prop} {m : Sem α} {Q Q' : β -> aa -> Prop}
def Tr.seq (h : Tr G A X m Rl Γ Q s) {P : α -> Shared -> Prop} (k : ∀ x b ag ay, Rl (bc G ag) ay.heap x b -> aM G ag ay -> Step G Γ s.heap ag ay.heap -> Q b ag -> P x ay) : wpAny G.M A m P X s :=
 wpAny_mono h (fun x ay ⟨b, ag, r, S, T, q⟩ => k x b ag ay r S T q) fun _ _ e => e
def Tr.back {h : Heap} (T : Step G Γ h ag s.heap) (q : Tr G A X m Rl ag Q s) : wpAny G.M A m (gv G Γ h Rl Q) X s :=
 wpAny_mono q (fun _ _ ⟨b, ae, r, S', T', q⟩ => ⟨b, ae, r, S', T.trans T', q⟩) fun _ _ e => e
def Tr.mono (h : Tr G A X m Rl Γ Q s) (k : ∀ b ae, Q b ae -> Q' b ae) : Tr G A X m Rl Γ Q' s :=
 wpAny_mono h (fun _ _ ⟨b, ae, r, S', T', q⟩ => ⟨b, ae, r, S', T', k b ae q⟩) fun _ _ e => e
def gv.here {h : Heap} {x : α} {b : β} (r : Rl (bc G ag) s.heap x b) (S : aM G ag s) (T : Step G Γ h ag s.heap) (q : Q b ag) : gv G Γ h Rl Q x s := ⟨b, ag, r, S, T, q⟩
inductive aN where
 | next | brk | cont
 | ret (v : AV)
inductive jW (V : Addr -> Prop) (h : Heap) : Flow -> aN -> Prop
 | next : jW V h .next .next
 | brk : jW V h .brk .brk
 | cont : jW V h .cont .cont
 | ret {v : Value} {x : AV} : Rep V h v x -> jW V h (.ret v) (.ret x)
noncomputable abbrev pq {γ : Type} : (Addr -> Prop) -> Heap -> γ -> γ -> Prop := fun _ _ a b => a = b
structure WE (G : Base) (A : Around) (X : Value -> Shared -> Prop) (env : Env) (e : Expr) (Γ : aa) (Q : AV -> aa -> Prop) : Prop where
 go : ∀ s, aM G Γ s -> Tr G A X (eval e env) Rep Γ Q s
structure ll (G : Base) (A : Around) (X : Value -> Shared -> Prop) (env : Env) (es : List Expr) (Γ : aa) (Q : List AV -> aa -> Prop) : Prop where
 go : ∀ pos s, aM G Γ s -> Tr G A X (spliced (backTo pos (starEach es env))) ah Γ Q s
structure WT (G : Base) (A : Around) (X : Value -> Shared -> Prop) (env : Env) (e : Expr) (Γ : aa) (Q : Bool -> aa -> Prop) : Prop where
 go : ∀ s, aM G Γ s -> Tr G A X (isTrue e env (eval e env)) pq Γ Q s
structure WS (G : Base) (A : Around) (X : Value -> Shared -> Prop) (env : Env) (ss : List Stmt) (Γ : aa) (Q : aN -> aa -> Prop) : Prop where
 go : ∀ s, aM G Γ s -> Tr G A X (execs ss env) jW Γ Q s
structure W1 (G : Base) (A : Around) (X : Value -> Shared -> Prop) (env : Env) (st : Stmt) (Γ : aa) (Q : aN -> aa -> Prop) : Prop where
 go : ∀ s, aM G Γ s -> Tr G A X (exec st env) jW Γ Q s
structure WU (G : Base) (A : Around) (X : Value -> Shared -> Prop) (f : Value -> Sem α) (Rl : (Addr -> Prop) -> Heap -> α -> β -> Prop) (x : AV) (Γ : aa) (Q : β -> aa -> Prop) : Prop where
 go : ∀ s v, aM G Γ s -> Rep (bc G Γ) s.heap v x -> Tr G A X (f v) Rl Γ Q s
structure WB (G : Base) (A : Around) (X : Value -> Shared -> Prop) (f : Value -> Value -> Sem α) (Rl : (Addr -> Prop) -> Heap -> α -> β -> Prop) (x y : AV) (Γ : aa) (Q : β -> aa -> Prop) : Prop where
 go : ∀ s v w, aM G Γ s -> Rep (bc G Γ) s.heap v x -> Rep (bc G Γ) s.heap w y -> Tr G A X (f v w) Rl Γ Q s
structure WC (G : Base) (A : Around) (X : Value -> Shared -> Prop) (f : Value) (xs : List AV) (Γ : aa) (Q : AV -> aa -> Prop) : Prop where
 go : ∀ s vs, aM G Γ s -> ah (bc G Γ) s.heap vs xs -> Tr G A X (call f vs) Rep Γ Q s
structure WA (G : Base) (A : Around) (X : Value -> Shared -> Prop) (env : Env) (t : Expr) (x : AV) (Γ : aa) (Q : aa -> Prop) : Prop where
 go : ∀ s v, aM G Γ s -> Rep (bc G Γ) s.heap v x -> Tr G A X (assign t env v) (pq (γ := Unit)) Γ (fun _ => Q) s
section
variable (G : Base) (A : Around) (X : Value -> Shared -> Prop) (env : Env)
abbrev Jl (f : Value -> Value -> Sem Value) (Q : AV -> aa -> Prop) (a b : AV) (Γ : aa) : Prop := WB G A X f Rep a b Γ Q
abbrev Er (f : Value -> Value -> Sem Value) (r : Expr) (Q : AV -> aa -> Prop) (a : AV) (Γ : aa) : Prop := WE G A X env r Γ (Jl G A X f Q a)
abbrev kU (f : Value -> Sem Value) (Q : AV -> aa -> Prop) (a : AV) (Γ : aa) : Prop := WU G A X f Rep a Γ Q
abbrev Fb (b o : Expr) (Q : AV -> aa -> Prop) (c : Bool) (Γ : aa) : Prop := match c with | true => WE G A X env b Γ Q | false => WE G A X env o Γ Q
abbrev Jm (Q : List AV -> aa -> Prop) (a : AV) (as : List AV) (Γ : aa) : Prop := Q (a :: as) Γ
abbrev Jn (es : List Expr) (Q : List AV -> aa -> Prop) (a : AV) (Γ : aa) : Prop := ll G A X env es Γ (Jm Q a)
abbrev Fc (Q : AV -> aa -> Prop) (xs : List AV) (Γ : aa) : Prop := xs.length <= sizeLine /\ Q (.tup xs) Γ
abbrev Fd (Q : AV -> aa -> Prop) (xs : List AV) (Γ : aa) : Prop := xs.length <= sizeLine /\ Q (.lst xs) Γ
abbrev Fe (Q : AV -> aa -> Prop) (xs : List AV) (Γ : aa) : Prop := xs.length <= sizeLine /\ ∀ a, Q (.raw (.ref a)) ((a, .list xs) :: Γ)
abbrev uc (Q : Bool -> aa -> Prop) (c : AV) (Γ : aa) : Prop := match c with | .raw (.bool t) => Q t Γ | _ => False
abbrev Ff (Q : Bool -> aa -> Prop) (b : Bool) (Γ : aa) : Prop := match b with | true => Q false Γ | false => Q true Γ
abbrev Fg (ss : List Stmt) (Q : aN -> aa -> Prop) (f : aN) (Γ : aa) : Prop := match f with | .next => WS G A X env ss Γ Q | f => Q f Γ
abbrev Fh (b o : List Stmt) (Q : aN -> aa -> Prop) (c : Bool) (Γ : aa) : Prop := match c with | true => WS G A X env b Γ Q | false => WS G A X env o Γ Q
abbrev CT (Q : aN -> aa -> Prop) (v : AV) (Γ : aa) : Prop := Q (.ret v) Γ
abbrev CU (Q : aN -> aa -> Prop) (Γ : aa) : Prop := Q .next Γ
abbrev CV (Q : aN -> aa -> Prop) (_ : AV) (Γ : aa) : Prop := Q .next Γ
abbrev Fi (t : Expr) (Q : aN -> aa -> Prop) (y : AV) (Γ : aa) : Prop := WA G A X env t y Γ (CU Q)
end
def uc.inv {Q : Bool -> aa -> Prop} {c : AV} {Γ : aa} (h : uc Q c Γ) : ∃ t, c = .raw (.bool t) /\ Q t Γ := by
 cases c with
 | raw v => cases v with
  | bool t => exact ⟨t, rfl, h⟩
  | _ => exact False.elim h
 | _ => exact False.elim h
def ao (Γ ae : aa) : Prop := ∃ R, Γ.Perm (ae ++ R)
def ao.sim {ae : aa} (w : ao Γ ae) (S : aM G Γ s) : aM G ae s := by
 obtain ⟨R, p⟩ := w
 have S' := S.perm p
 refine S'.sub (fun q hq => List.mem_append_left _ hq) ?_
 have := S'.nodup
 unfold keys at this ⊢
 rw [List.map_append] at this
 exact (List.nodup_append.mp this).1
def ao.step {ae : aa} {h : Heap} (w : ao Γ ae) : Step G Γ h ae h := by
 obtain ⟨R, p⟩ := w
 exact .sub fun q hq => p.mem_iff.mpr (List.mem_append_left _ hq)
def ao.refl (Γ : aa) : ao Γ Γ := ⟨[], by rw [List.append_nil]⟩
def ao.drop {e : Addr × bG} {ae : aa} (w : ao Γ ae) : ao (e :: Γ) ae := by
 obtain ⟨R, p⟩ := w
 exact ⟨e :: R, (p.cons e).trans List.perm_middle.symm⟩
def ao.pick {a : Addr} {o : bG} {ae : aa} (p : aC a o Γ R) (w : ao R ae) : ao Γ ((a, o) :: ae) := by
 obtain ⟨R', q⟩ := w
 exact ⟨R', p.perm.trans (q.cons _)⟩
theorem ao.trans {ae jd : aa} (w : ao Γ ae) (w' : ao ae jd) : ao Γ jd := by
 obtain ⟨R, p⟩ := w; obtain ⟨R', p'⟩ := w'
 exact ⟨R' ++ R, p.trans ((p'.append_right R).trans (by rw [List.append_assoc]))⟩
def Rep.weak {ae : aa} {v : Value} {x : AV} {h : Heap} (w : ao Γ ae) (r : Rep (bc G Γ) h v x) : Rep (bc G ae) h v x :=
 r.keep (w.step (G := G) (h := h)).az
def ah.weak {ae : aa} {v : List Value} {x : List AV} {h : Heap} (w : ao Γ ae) (r : ah (bc G Γ) h v x) : ah (bc G ae) h v x :=
 r.keep (w.step (G := G) (h := h)).az
def WE.weak {e : Expr} {Q : AV -> aa -> Prop} (w : ao Γ ag) (h : WE G A X env e ag Q) : WE G A X env e Γ Q := .mk fun s S => (h.go s (w.sim S)).back w.step
def WS.weak {ss : List Stmt} {Q : aN -> aa -> Prop} (w : ao Γ ag) (h : WS G A X env ss ag Q) : WS G A X env ss Γ Q := .mk fun s S => (h.go s (w.sim S)).back w.step
theorem WC.weak {f : Value} {xs : List AV} {Q : AV -> aa -> Prop} (w : ao Γ ag) (h : WC G A X f xs ag Q) : WC G A X f xs Γ Q := .mk fun s vs S r => (h.go s vs (w.sim S) (r.weak w)).back w.step
def Turn (G : Base) (Γ : aa) (v : AV) (ae : aa) (v' : AV) : Prop := ao Γ ae /\ ∀ s u, aM G Γ s -> Rep (bc G Γ) s.heap u v -> Rep (bc G ae) s.heap u v'
def Fin (G : Base) (Q : AV -> aa -> Prop) (v : AV) (Γ : aa) : Prop := ∃ v' ae, Turn G Γ v ae v' /\ Q v' ae
def Fin.mk {Q : AV -> aa -> Prop} {v : AV} {ae : aa} (w : ao Γ ae) (q : Q v ae) : Fin G Q v Γ := ⟨v, ae, ⟨w, fun _ _ _ r => r.weak w⟩, q⟩
theorem Fin.turn {Q : AV -> aa -> Prop} {v v' : AV} {ae : aa} (t : Turn G Γ v ae v') (q : Q v' ae) : Fin G Q v Γ := ⟨v', ae, t, q⟩
theorem Tr.fin {m : Sem Value} {Q : AV -> aa -> Prop} (h : Tr G A X m Rep Γ (Fin G Q) s) : Tr G A X m Rep Γ Q s :=
 wpAny_mono h (fun _ _ zz => (by refine gF fun Z => ?_; obtain ⟨b, ae, r, S', T', CW, jd, ⟨w, t⟩, q⟩ := zz; exact Z (⟨CW, jd, t _ _ S' r, w.sim S', T'.trans w.step, q⟩))) fun _ _ e => e
end
section
variable {env : Env} {pos : Pos} {Γ ag R : aa} {Q : AV -> aa -> Prop} {k : Nat}
theorem WE.none {Γ : aa} {Q : AV -> aa -> Prop} (q : Q (.raw .none) Γ) : WE G A X env (.Constant .none k pos) Γ Q := .mk fun s S => wpAny_Constant_none (.here (.raw _) S .refl q)
theorem WE.bool {b : Bool} {Γ : aa} {Q : AV -> aa -> Prop} (q : Q (.raw (.bool b)) Γ) : WE G A X env (.Constant (.bool b) k pos) Γ Q := .mk fun s S => wpAny_Constant_bool (.here (.raw _) S .refl q)
theorem WE.int {i : Int} {Γ : aa} {Q : AV -> aa -> Prop} (q : Q (.int i) Γ) : WE G A X env (.Constant (.int i) k pos) Γ Q := .mk fun s S => wpAny_Constant_int (.here (.int _ _) (S.toks _) .refl q)
theorem WE.str {x : Str} {Γ : aa} {Q : AV -> aa -> Prop} (q : Q (.str x) Γ) : WE G A X env (.Constant (.str x) k pos) Γ Q := .mk fun s S => wpAny_Constant_str (.here (.str _ _) (S.toks _) .refl q)
theorem WE.local {x : Str} {m : List (Str × Option AV)} {v : AV} (hx : env.kindOf x = some .local) (p : aC env.locals (.ns m) Γ R) (hm : (x, some v) ∈ m) (q : Q v Γ)
  (hk : autoParam (env.scope.kind = .function) aR) (hd : autoParam ((x == ("__debug__" : Str)) = false) aD) : WE G A X env (.Name x pos) Γ Q := .mk fun s S => by
 obtain ⟨mm, hn, nd, hr⟩ := S.at p
 have r := hr _ hm
 cases e : mm x with
 | none => dsimp only at r; rw [e] at r; exact r.elim
 | some u =>
  dsimp only at r; rw [e] at r
  exact wpAny_Name (wpAny_loadName_local hk hx hn e (.here r S .refl q)) hd
theorem WE.cell {x : Str} {c : Addr} {v : AV} (hx : env.kindOf x = some .cell) (hc : env.cells.lookup x = some c) (p : aC c (.cell (some v)) Γ R) (q : Q v Γ)
  (hk : autoParam (env.scope.kind = .function) aR) (hd : autoParam ((x == ("__debug__" : Str)) = false) aD) : WE G A X env (.Name x pos) Γ Q := .mk fun s S => by
 obtain ⟨u, e, r⟩ := S.at p
 cases u with
 | none => exact r.elim
 | some u => exact wpAny_Name (wpAny_loadName_cell hk hx hc e (.here r S .refl q)) hd
theorem WE.free {x : Str} {c : Addr} {v : AV} (hx : env.kindOf x = some .free) (hc : env.cells.lookup x = some c) (p : aC c (.cell (some v)) Γ R) (q : Q v Γ)
  (hk : autoParam (env.scope.kind = .function) aR) (hd : autoParam ((x == ("__debug__" : Str)) = false) aD) (gG : autoParam ((x == ("__classdict__" : Str)) = false) aD) : WE G A X env (.Name x pos) Γ Q := .mk fun s S => by
 k_dflt obtain ⟨u, e, r⟩ := S.at p
 cases u with
 | none => exact r.elim
 | some u => exact wpAny_Name (wpAny_loadName_free hk hx hc e (.here r S .refl q) gG) hd
def fL (G : Base) (v : Value) (x : AV) : Prop := ∀ Γ s, aM G Γ s -> Rep (bc G Γ) s.heap v x
theorem fL.raw {v : Value} : fL G v (.raw v) := fun _ _ _ => .raw v
theorem fL.int {i : Int} {t : Tok} : fL G (.int i t) (.int i) := fun _ _ _ => .int i t
theorem fL.str {x : Str} {t : Tok} : fL G (.str x t) (.str x) := fun _ _ _ => .str x t
def wo {a : Addr} {o : Obj} {s : Shared} (S : aM G Γ s) (e : G.h.get? a = some o) (n : a ∉ G.ts) : ¬ bc G Γ a := fun q => q.elim n fun q => by
 obtain ⟨p, hp, rfl⟩ := List.mem_map.mp q
 replace e := (S.low p hp) ▸ e; contradiction
def WE.global {x : Str} {v : Value} {y : AV} (hx : env.kindOf x = some .globalImplicit) (hg : env.globals = mainGlobals) (e : G.mg x = some v) (sr : fL G v y) (q : Q y Γ)
  (hk : autoParam (env.scope.kind = .function) aR) (hd : autoParam ((x == ("__debug__" : Str)) = false) aD) : WE G A X env (.Name x pos) Γ Q := .mk fun s S =>
 Name_function_global hk hx (loadGlobal_global (hg ▸ S.mg) e (.here (sr Γ s S) S .refl q)) hd
def WE.builtin {x : Str} {v : Value} (hx : env.kindOf x = some .globalImplicit) (hg : env.globals = mainGlobals) (hb : env.builtins = builtinsNs) (n : G.mg x = Option.none) (e : G.mb x = some v) (q : Q (.raw v) Γ)
  (hk : autoParam (env.scope.kind = .function) aR) (hd : autoParam ((x == ("__debug__" : Str)) = false) aD) : WE G A X env (.Name x pos) Γ Q := .mk fun s S =>
 Name_function_global hk hx (loadGlobal_builtin (hg ▸ S.mg) n (hb ▸ S.mb) e (.here (.raw v) S .refl q)) hd
end
section
variable {env : Env} {pos : Pos} {Γ ag R : aa} {Q : AV -> aa -> Prop}
noncomputable def notStar (e : Expr) : Bool := e.ctorIdx != 22
noncomputable def lK (e : Expr) : Bool := e.ctorIdx != 7
def gJ {e : Expr} {es : List Expr} (h : notStar e = true) : starEach (e :: es) env = (false, eval e env) :: starEach es env := by cases e <;> first | rfl | contradiction
def je {e : Expr} {op : CmpOp} (h : lK e = true) : behindInMarks op e = false := by cases e <;> first | rfl | contradiction
def WE.binop {l r : Expr} {op : Operator} {Γ : aa} {Q : AV -> aa -> Prop} (h : WE G A X env l Γ (Er G A X env (binaryOp op) r Q)) : WE G A X env (.BinOp l op r pos) Γ Q := .mk fun s S =>
 wpAny_BinOp ((h.go s S).seq fun _ _ _ ay ra ax aG bk => (bk.go ay ax).seq fun _ _ _ aW rb bp bx gx => (gx.go aW _ _ bp (ra.keep bx.az) rb).back (aG.trans bx))
def WE.compare {l r : Expr} {op : CmpOp} {Γ : aa} {Q : AV -> aa -> Prop} (h : WE G A X env l Γ (Er G A X env (compareOp op) r Q))
  (hm : autoParam (lK r = true) aU) : WE G A X env (.Compare l [op] [r] pos) Γ Q := .mk fun s S =>
 wpAny_Compare1 ((h.go s S).seq fun _ _ _ ay ra ax aG bk => (bk.go ay ax).seq fun _ _ _ aW rb bp bx gx => (gx.go aW _ _ bp (ra.keep bx.az) rb).back (aG.trans bx)) (je hm)
def WE.unary {op : UnaryOp} {e : Expr} {Γ : aa} {Q : AV -> aa -> Prop} (h : WE G A X env e Γ (kU G A X (unaryOp op) Q)) : WE G A X env (.UnaryOp op e pos) Γ Q := .mk fun s S =>
 wpAny_UnaryOp ((h.go s S).seq fun _ _ _ ay ra ax aG bk => (bk.go ay _ ax ra).back aG)
def WE.Av {t b o : Expr} {Γ : aa} {Q : AV -> aa -> Prop} (h : WT G A X env t Γ (Fb G A X env b o Q)) : WE G A X env (.IfExp t b o pos) Γ Q := .mk fun s S => by
 rw [arm_eval_IfExp]
 refine wpAny_bind ((h.go s S).seq fun x c ag ay e ax aG bk => ?_)
 k_dflt subst e
 cases x
 .exact (bk.go ay ax).back aG
 .exact (bk.go ay ax).back aG
theorem ll.nil {Γ : aa} {Q : List AV -> aa -> Prop} (q : Q [] Γ) : ll G A X env [] Γ Q := .mk fun pos s S => wpAny_items_nil (.here .nil S .refl q)
theorem ll.cons {e : Expr} {es : List Expr} {Γ : aa} {Q : List AV -> aa -> Prop} (h : WE G A X env e Γ (Jn G A X env es Q))
  (hs : autoParam (notStar e = true) aU) : ll G A X env (e :: es) Γ Q := .mk fun pos s S => by
 rw [gJ hs]
 show wpAny _ _ (spliced ((false, eval e env) :: backTo pos (starEach es env))) _ _ _
 exact spliced_cons ((h.go s S).seq fun _ _ _ ay ra ax aG bk => (bk.go pos ay ax).seq fun _ _ _ aW rb bp bx gx => .here (.cons (ra.keep bx.az) rb) bp (aG.trans bx) gx)
def wq {s : Shared} {vs : List Value} {xs : List AV} {Q : AV -> aa -> Prop} (S : aM G Γ s) (r : ah (bc G Γ) s.heap vs xs) (hz : xs.length <= sizeLine) (q : Q (.tup xs) Γ) : Tr G A X (newTuple vs) Rep Γ Q s := by
 refine wpAny_newTuple ?_ ?_
 .have z := S.push (s' := { s with heap := s.heap.push (cj vs 0) }) rfl rfl rfl
  exact .here (.tup (Heap.get?_push_size _ rfl) (S.fresh (bK _)) (r.keep z.2.az)) z.1 z.2 q
 .show vs.length <= sizeLine
  rw [r.length]; exact hz
end
end
section
section
variable {env : Env} {pos : Pos} {Γ ag R : aa} {Q : AV -> aa -> Prop}
def cJ {s : Shared} (S : aM G Γ s) : ¬ bc G Γ s.heap.objs.size := S.fresh (bK _)
def wu {s : Shared} {vs : List Value} {xs : List AV} {Q : AV -> aa -> Prop} (S : aM G Γ s) (r : ah (bc G Γ) s.heap vs xs) (hz : xs.length <= sizeLine) (q : Q (.lst xs) Γ) : Tr G A X (newList vs) Rep Γ Q s := by
 refine wpAny_newList ?_ ?_
 .have z := S.push (s' := { s with heap := s.heap.push (bW vs 0) }) rfl rfl rfl
  exact .here (.lst (Heap.get?_push_size _ rfl) (cJ S) (r.keep z.2.az)) z.1 z.2 q
 .show vs.length <= sizeLine
  rw [r.length]; exact hz
def nY {s : Shared} {vs : List Value} {xs : List AV} {Q : AV -> aa -> Prop} (S : aM G Γ s) (r : ah (bc G Γ) s.heap vs xs) (hz : xs.length <= sizeLine) (q : ∀ a, Q (.raw (.ref a)) ((a, .list xs) :: Γ)) : Tr G A X (newList vs) Rep Γ Q s := by
 refine wpAny_newList ?_ ?_
 .have z := S.alloc (s' := { s with heap := s.heap.push (bW vs 0) }) (o' := .list xs) rfl rfl rfl fun k => ⟨vs, 0, Heap.get?_push_size _ rfl, r.keep k⟩
  exact .here (.raw _) z.1 z.2 (q _)
 .show vs.length <= sizeLine
  rw [r.length]; exact hz
def WE.tuple {es : List Expr} {k : Nat} {Γ : aa} {Q : AV -> aa -> Prop} (h : ll G A X env es Γ (Fc Q)) : WE G A X env (.Tuple es k pos) Γ Q := .mk fun s S =>
 Tuple_ ((h.go pos s S).seq fun _ _ _ ay ra ax aG bk => (wq ax ra bk.1 bk.2).back aG)
def WE.list {es : List Expr} {Γ : aa} {Q : AV -> aa -> Prop} (h : ll G A X env es Γ (Fd Q)) : WE G A X env (.List es pos) Γ Q := .mk fun s S =>
 List_ ((h.go pos s S).seq fun _ _ _ ay ra ax aG bk => (wu ax ra bk.1 bk.2).back aG)
def WE.cK {es : List Expr} {Γ : aa} {Q : AV -> aa -> Prop} (h : ll G A X env es Γ (Fe Q)) : WE G A X env (.List es pos) Γ Q := .mk fun s S =>
 List_ ((h.go pos s S).seq fun _ _ _ ay ra ax aG bk => (nY ax ra bk.1 bk.2).back aG)
def IsTup.of {h : Heap} {a : Addr} {vs : List Value} {n : Nat} (e : h.get? a = some (cj vs n)) : IsTup h a vs.toArray := ⟨_, e, rfl, n, rfl⟩
def IsList.of {h : Heap} {a : Addr} {vs : List Value} {n : Nat} (e : h.get? a = some (bW vs n)) : h.IsList a vs.toArray := ⟨_, e, rfl, n, rfl⟩
noncomputable def bS (e : Expr) : Bool := e.ctorIdx != 26
def bT {i : Expr} {o k : Value} (hi : bS i = true) : subscripted i false o k = operate [o, k] (getItem o k) := by
 cases i <;> first | rfl | contradiction
def WE.item {o i : Expr} {Γ : aa} {Q : AV -> aa -> Prop} (h : WE G A X env o Γ (Er G A X env (subscriptTail o i) i Q)) : WE G A X env (.Subscript o i pos) Γ Q := .mk fun s S =>
 Subscript_ ((h.go s S).seq fun _ _ _ ay ra ax aG bk => (bk.go ay ax).seq fun _ _ _ aW rb bp bx gx => (gx.go aW _ _ bp (ra.keep bx.az) rb).back (aG.trans bx))
def WB.item_tup {o i : Expr} {xs : List AV} {k : Int} {j : Nat} {x : AV} (Fj : -(2 ^ 63) <= k) (Aw : k < 2 ^ 63) (hj : seqIndex? k xs.length = some j) (hx : xs[j]? = some x) (q : Q x Γ) (hi : autoParam (bS i = true) aU) :
  WB G A X (subscriptTail o i) Rep (.tup xs) (.int k) Γ Q := .mk fun s v u S r ru => by
 apply Rep.dZ ru; intro t
 apply Rep.lJ r; intro a vs n e n rs
 obtain ⟨y, hy, ry⟩ := rs.get hx
 exact item_tupleT (IsTup.of e) Fj Aw (rs.length ▸ hj) hy (.here ry S .refl q) (bT hi)
def WB.wx {o i : Expr} {xs : List AV} {k : Nat} {x : AV} (Aw : k < 2 ^ 63) (hx : xs[k]? = some x) (q : Q x Γ) (hi : autoParam (bS i = true) aU) :
  WB G A X (subscriptTail o i) Rep (.lst xs) (.int k) Γ Q := .mk fun s v u S r ru => by
 apply Rep.dZ ru; intro t
 apply Rep.uX r; intro a vs n e n rs
 obtain ⟨y, hy, ry⟩ := rs.get hx
 exact tail_any (IsList.of e).typeIs slot_list_getitem.lookup (wpAny_getItem_list (IsList.of e) (Int.natCast_nonneg k) (by tm_at "o") (by simpa using hy) (.here ry S .refl q)) (bT hi)
def WB.item_list {o i : Expr} {a : Addr} {xs : List AV} {k : Nat} {x : AV} (p : aC a (.list xs) Γ R) (Aw : k < 2 ^ 63) (hx : xs[k]? = some x) (q : Q x Γ) (hi : autoParam (bS i = true) aU) :
  WB G A X (subscriptTail o i) Rep (.raw (.ref a)) (.int k) Γ Q := .mk fun s v u S r ru => by
 apply Rep.dZ ru; intro t
 apply Rep.bX r
 obtain ⟨vs, n, e, rs⟩ := S.at p
 obtain ⟨y, hy, ry⟩ := rs.get hx
 exact tail_any (IsList.of e).typeIs slot_list_getitem.lookup (wpAny_getItem_list (IsList.of e) (Int.natCast_nonneg k) (by tm_at "o") (by simpa using hy) (.here ry S .refl q)) (bT hi)
end
section
variable {env : Env} {pos : Pos} {Γ ag R : aa} {Q : Bool -> aa -> Prop}
def WT.compare {l r : Expr} {op : CmpOp} {Γ : aa} {Q : Bool -> aa -> Prop} (h : WE G A X env l Γ (Er G A X env (compareOp op) r (uc Q)))
  (hm : autoParam (lK r = true) aU) : WT G A X env (.Compare l [op] [r] pos) Γ Q := .mk fun s S =>
 wpAny_isTrue_Compare1 ((h.go s S).seq fun _ _ _ ay ra ax aG bk => (bk.go ay ax).seq fun _ _ _ aW rb bp bx gx => (gx.go aW _ _ bp (ra.keep bx.az) rb).seq fun c cv Ax gK rc iE jf zz => by
  k_dflt obtain ⟨t, e, q⟩ := zz.inv
  subst e; apply Rep.bX rc
  exact wpAny_truthy_bool (.here rfl iE ((aG.trans bx).trans jf) q)) (je hm)
def WT.not {e : Expr} (h : WT G A X env e Γ fun b ag => Q (!b) ag) : WT G A X env (.UnaryOp .Not e pos) Γ Q := .mk fun s S =>
 wpAny_isTrue_Not ((h.go s S).seq fun x b ag ay e ax aG bk => by subst e; exact .here rfl ax aG bk)
structure qJ (G : Base) (A : Around) (X : Value -> Shared -> Prop) (env : Env) (op : BoolOp) (es : List Expr) (Γ : aa) (Q : Bool -> aa -> Prop) : Prop where
 go : ∀ s, aM G Γ s -> Tr G A X (allTrue op es env) pq Γ Q s
abbrev Fl (G : Base) (A : Around) (X : Value -> Shared -> Prop) (env : Env) (es : List Expr) (Q : Bool -> aa -> Prop) (b : Bool) (Γ : aa) : Prop := match b with | true => qJ G A X env .And es Γ Q | false => Q false Γ
abbrev Jo (G : Base) (A : Around) (X : Value -> Shared -> Prop) (env : Env) (es : List Expr) (Q : Bool -> aa -> Prop) (b : Bool) (Γ : aa) : Prop := match b with | true => Q true Γ | false => qJ G A X env .Or es Γ Q
def WT.Bd {op : BoolOp} {es : List Expr} (h : qJ G A X env op es Γ Q) : WT G A X env (.BoolOp op es pos) Γ Q := .mk fun s S => wpAny_isTrue_BoolOp (h.go s S)
def qJ.and_nil (q : Q true Γ) : qJ G A X env .And [] Γ Q := .mk fun s S => wpAny_allTrue_And_nil (.here rfl S .refl q)
def qJ.or_nil (q : Q false Γ) : qJ G A X env .Or [] Γ Q := .mk fun s S => wpAny_allTrue_Or_nil (.here rfl S .refl q)
def qJ.and {e : Expr} {es : List Expr} {Γ : aa} {Q : Bool -> aa -> Prop} (h : WT G A X env e Γ (Fl G A X env es Q)) : qJ G A X env .And (e :: es) Γ Q := .mk fun s S => by
 refine wpAny_allTrue_And_cons ((h.go s S).seq fun x b ag ay e ax aG bk => ?_)
 cases e
 cases x
 .exact .here rfl ax aG bk
 .exact (bk.go ay ax).back aG
def qJ.or {e : Expr} {es : List Expr} {Γ : aa} {Q : Bool -> aa -> Prop} (h : WT G A X env e Γ (Jo G A X env es Q)) : qJ G A X env .Or (e :: es) Γ Q := .mk fun s S => by
 refine wpAny_allTrue_Or_cons ((h.go s S).seq fun x b ag ay e ax aG bk => ?_)
 cases e
 cases x
 .exact (bk.go ay ax).back aG
 .exact .here rfl ax aG bk
end
section
variable {env : Env} {pos : Pos} {Γ ag R : aa} {Q : aN -> aa -> Prop}
def WS.nil (q : Q .next Γ) : WS G A X env [] Γ Q := .mk fun s S => wpAny_execs_nil (.here .next S .refl q)
def WS.cons {st : Stmt} {ss : List Stmt} {Γ : aa} {Q : aN -> aa -> Prop} (h : W1 G A X env st Γ (Fg G A X env ss Q)) : WS G A X env (st :: ss) Γ Q := .mk fun s S =>
 wpAny_execs_cons ((h.go s S).seq fun x f ag ay r ax aG bk => by
  cases r with
  | next => exact (bk.go ay ax).back aG
  | brk => exact .here .brk ax aG bk
  | cont => exact .here .cont ax aG bk
  | ret r => exact .here (.ret r) ax aG bk)
def W1.if {t : Expr} {b o : List Stmt} {Γ : aa} {Q : aN -> aa -> Prop} (h : WT G A X env t Γ (Fh G A X env b o Q)) : W1 G A X env (.If t b o pos) Γ Q := .mk fun s S =>
 wpAny_If ((h.go s S).seq fun x c ag ay e ax aG bk => by
  subst e
  cases x
  .exact (bk.go ay ax).back aG
  .exact (bk.go ay ax).back aG)
theorem W1.ret {e : Expr} {Γ : aa} {Q : aN -> aa -> Prop} (h : WE G A X env e Γ (CT Q)) : W1 G A X env (.Return (some e) pos) Γ Q := .mk fun s S =>
 wpAny_Return_some ((h.go s S).seq fun x v ag ay r ax aG bk => .here (.ret r) ax aG bk)
def W1.pass (q : Q .next Γ) : W1 G A X env (.Pass pos) Γ Q := .mk fun s S => wpAny_Pass (.here .next S .refl q)
def W1.continue (q : Q .cont Γ) : W1 G A X env (.Continue pos) Γ Q := .mk fun s S => wpAny_Continue (.here .cont S .refl q)
def W1.break (q : Q .brk Γ) : W1 G A X env (.Break pos) Γ Q := .mk fun s S => wpAny_Break (.here .brk S .refl q)
end
inductive nZ : List (Str × Option AV) -> Str -> AV -> List (Str × Option AV) -> Prop
 | here {x : Str} {o : Option AV} {v : AV} {m : List (Str × Option AV)} : nZ ((x, o) :: m) x v ((x, some v) :: m)
 | there {e : Str × Option AV} {x : Str} {v : AV} {m m' : List (Str × Option AV)} : nZ m x v m' -> nZ (e :: m) x v (e :: m')
inductive jg (L : Addr) (x : Str) (v : AV) (Q : aa -> Prop) (Γ : aa) : Prop
 | mk {m m' : List (Str × Option AV)} {R : aa} (p : aC L (.ns m) Γ R) (h : nZ m x v m') (q : Q ((L, .ns m') :: R))
theorem nZ.keys {m m' : List (Str × Option AV)} {x : Str} {v : AV} (p : nZ m x v m') : m'.map (·.1) = m.map (·.1) := by
 induction p with
 | here => rfl
 | there _ ih => simp [ih]
def nZ.mem {m m' : List (Str × Option AV)} {x : Str} {v : AV} (p : nZ m x v m') : x ∈ m.map (·.1) := by
 induction p with
 | here => exact .head _
 | there _ ih => exact .tail _ ih
def nZ.look {m m' : List (Str × Option AV)} {x : Str} {v : AV} (p : nZ m x v m') (nd : (m.map (·.1)).Nodup) : ∀ q ∈ m', (q = (x, some v)) \/ (q ∈ m /\ q.1 ≠ x) := by
 induction p with
 | here =>
  intro q hq
  rcases List.mem_cons.mp hq with rfl | hq
  .exact .inl rfl
  .refine .inr ⟨.tail _ hq, fun e => ?_⟩
   have := (List.nodup_cons.mp nd).1
   have Hz := List.mem_map_of_mem (f := Prod.fst) hq
   rw [e] at Hz
   exact this Hz
 | there p ih =>
  intro q hq
  have dg := List.nodup_cons.mp nd
  rcases List.mem_cons.mp hq with rfl | hq
  .refine .inr ⟨.head _, fun e => ?_⟩
   exact dg.1 (by have := p.mem; rw [<- e] at this; exact this)
  .rcases ih dg.2 q hq with h | h
   .exact .inl h
   .exact .inr ⟨.tail _ h.1, h.2⟩
section
variable {env : Env} {pos : Pos} {Γ ag R : aa}
def gL {s : Shared} {x : Str} {v : Value} {y : AV} {m m' : List (Str × Option AV)} {Q : aa -> Prop} (hx : env.kindOf x = some .local) (p : aC env.locals (.ns m) Γ R) (hm : nZ m x y m') (S : aM G Γ s) (r : Rep (bc G Γ) s.heap v y)
  (q : Q ((env.locals, .ns m') :: R)) (hk : env.scope.kind = .function) : Tr G A X (storeName env x v) (pq (γ := Unit)) Γ (fun _ => Q) s := by
 k_dflt obtain ⟨mm, hn, nd, hr⟩ := S.at p
 refine wpAny_storeName_local hx hn (fun h' Fm hs => ?_) (by show (env.scope.kind == .class || (env.scope.kind == .module && env.locals != env.globals)) = false; refine hk ▸ ?_; rfl)
 have z := S.change (s' := { s with heap := h', toks := s.toks + 1 }) (o' := .ns m') p hs rfl rfl fun k => by
  refine ⟨_, Fm, by rw [hm.keys]; exact nd, fun e he => ?_⟩
  rcases hm.look nd e he with rfl | ⟨he, iG⟩
  .dsimp only; rw [if_pos rfl]; exact r.keep k
  .dsimp only; rw [if_neg iG]; exact (hr e he).keep k
 exact .here rfl z.1 z.2 q
theorem WA.local {x : Str} {y : AV} {m m' : List (Str × Option AV)} {Q : aa -> Prop} (hx : env.kindOf x = some .local) (p : aC env.locals (.ns m) Γ R) (hm : nZ m x y m') (q : Q ((env.locals, .ns m') :: R))
  (hk : autoParam (env.scope.kind = .function) aR) : WA G A X env (.Name x pos) y Γ Q := .mk fun s v S r => by
 rw [arm_assign_Name]
 exact wpAny_bind (wpAny_standAt (wpAny_bindName (gL hx p hm S r q hk)))
end
end
section
structure aj (A : Around) (n : Nat) : Prop where
 depth : A.depth + n < recursionLimit
 units : A.units + 10 * n + 300 <= cLine
 handled : A.handled = none
theorem aj.le {A : Around} {n m : Nat} (r : aj A n) (h : m <= n) : aj A m := ⟨by have := r.depth; tm_at "o", by have := r.units; tm_at "o", r.handled⟩
theorem aj.deeper {A : Around} {n : Nat} {env : Env} (r : aj A (n + 1)) : aj (A.deeper env) n := ⟨by have := r.depth; show A.depth + 1 + n < _; tm_at "o", by have := r.units; show A.units + 3 + _ + 300 <= _; tm_at "o", r.handled⟩
theorem aj.in1 {A : Around} {n : Nat} (r : aj A (n + 1)) : aj A.in1 n := ⟨by have := r.depth; show A.depth + n < _; tm_at "o", by have := r.units; show A.units + 1 + _ + 300 <= _; tm_at "o", r.handled⟩
def aj.lt {A : Around} {n : Nat} (r : aj A n) : A.depth < recursionLimit := by have := r.depth; tm_at "o"
def aj.ult {A : Around} {n : Nat} (r : aj A n) : A.units + 64 < cLine := by have := r.units; tm_at "o"
inductive Lay : List (Str × NameKind) -> List (Str × AV) -> List (Str × Option AV) -> List (Str × Option AV) -> Prop
 | nil : Lay [] [] [] []
 | gN {x v names ps m cs} : Lay names ps m cs -> Lay ((x, .local) :: names) ((x, v) :: ps) ((x, some v) :: m) cs
 | kD {x v names ps m cs} : Lay names ps m cs -> Lay ((x, .cell) :: names) ((x, v) :: ps) m ((x, some v) :: cs)
 | «local» {x names m cs} : Lay names [] m cs -> Lay ((x, .local) :: names) [] ((x, none) :: m) cs
 | cell {x names m cs} : Lay names [] m cs -> Lay ((x, .cell) :: names) [] m ((x, none) :: cs)
 | other {x k names m cs} : (k == .local) = false -> (k == .cell) = false -> Lay names [] m cs -> Lay ((x, k) :: names) [] m cs
noncomputable def aE : Addr -> List (Str × Option AV) -> aa
 | _, [] => []
 | n, (_, v) :: r => (n, .cell v) :: aE (n + 1) r
section
variable {names : List (Str × NameKind)} {ps : List (Str × AV)} {m cs : List (Str × Option AV)}
def Lay.wy (l : Lay names ps m cs) : ∀ x o, (x, o) ∈ m -> (x, NameKind.local) ∈ names /\ ((∃ v, o = some v /\ (x, v) ∈ ps) \/ (o = none /\ ((names.map (·.1)).Nodup -> ∀ v, (x, v) ∉ ps))) := by
 induction l with
 | nil => intro x o h; cases h
 | gN l ih =>
  intro x o h
  rcases List.mem_cons.mp h with h | h
  .cases h; exact ⟨.head _, .inl ⟨_, rfl, .head _⟩⟩
  .obtain ⟨a, b⟩ := ih x o h
   refine ⟨.tail _ a, b.imp (fun ⟨v, e, q⟩ => ⟨v, e, .tail _ q⟩) fun ⟨e, q⟩ => ⟨e, fun nd v hv => ?_⟩⟩
   have dg := List.nodup_cons.mp nd
   rcases List.mem_cons.mp hv with hv | hv
   .cases hv; exact dg.1 (List.mem_map.mpr ⟨_, a, rfl⟩)
   .exact q dg.2 v hv
 | kD l ih =>
  intro x o h
  obtain ⟨a, b⟩ := ih x o h
  refine ⟨.tail _ a, b.imp (fun ⟨v, e, q⟩ => ⟨v, e, .tail _ q⟩) fun ⟨e, q⟩ => ⟨e, fun nd v hv => ?_⟩⟩
  have dg := List.nodup_cons.mp nd
  rcases List.mem_cons.mp hv with hv | hv
  .cases hv; exact dg.1 (List.mem_map.mpr ⟨_, a, rfl⟩)
  .exact q dg.2 v hv
 | «local» l ih =>
  intro x o h
  rcases List.mem_cons.mp h with h | h
  .cases h; exact ⟨.head _, .inr ⟨rfl, fun _ _ q => nomatch q⟩⟩
  .obtain ⟨a, b⟩ := ih x o h
   exact ⟨.tail _ a, b.imp id fun ⟨e, _⟩ => ⟨e, fun _ _ q => nomatch q⟩⟩
 | cell l ih =>
  intro x o h
  obtain ⟨a, b⟩ := ih x o h
  exact ⟨.tail _ a, b.imp id fun ⟨e, _⟩ => ⟨e, fun _ _ q => nomatch q⟩⟩
 | other _ _ l ih =>
  intro x o h
  obtain ⟨a, b⟩ := ih x o h
  exact ⟨.tail _ a, b.imp id fun ⟨e, _⟩ => ⟨e, fun _ _ q => nomatch q⟩⟩
def Lay.yX (l : Lay names ps m cs) (nd : (names.map (·.1)).Nodup) : (m.map (·.1)).Nodup := by
 induction l with
 | nil => exact .nil
 | gN l ih =>
  have dg := List.nodup_cons.mp nd
  refine List.nodup_cons.mpr ⟨fun q => ?_, ih dg.2⟩
  obtain ⟨⟨x, o⟩, h, e⟩ := List.mem_map.mp q
  cases e
  exact dg.1 (List.mem_map.mpr ⟨_, (l.wy _ _ h).1, rfl⟩)
 | kD l ih => exact ih (List.nodup_cons.mp nd).2
 | «local» l ih =>
  have dg := List.nodup_cons.mp nd
  refine List.nodup_cons.mpr ⟨fun q => ?_, ih dg.2⟩
  obtain ⟨⟨x, o⟩, h, e⟩ := List.mem_map.mp q
  cases e
  exact dg.1 (List.mem_map.mpr ⟨_, (l.wy _ _ h).1, rfl⟩)
 | cell l ih => exact ih (List.nodup_cons.mp nd).2
 | other _ _ l ih => exact ih (List.nodup_cons.mp nd).2
def Lay.cells (l : Lay names ps m cs) : ∀ n acc, cellsFrom n names acc = ((cs.map (·.1)).zip ((List.range' n cs.length))).reverse ++ acc := by
 induction l with
 | nil => intro n acc; rfl
 | gN l ih => intro n acc; exact ih n acc
 | «local» l ih => intro n acc; exact ih n acc
 | kD l ih =>
  intro n acc
  refine (ih (n + 1) _).trans ?_
  simp [List.range'_succ]
 | cell l ih =>
  intro n acc
  refine (ih (n + 1) _).trans ?_
  simp [List.range'_succ]
 | other _ h l ih =>
  intro n acc
  refine (ih n acc) ▸ ?_
  conv => lhs; unfold cellsFrom
  rw [h]; rfl
def Lay.lL (l : Lay names ps m cs) : ∀ x o, (x, o) ∈ cs -> (x, NameKind.cell) ∈ names /\ ((∃ v, o = some v /\ (x, v) ∈ ps) \/ (o = none /\ ((names.map (·.1)).Nodup -> ∀ v, (x, v) ∉ ps))) := by
 induction l with
 | nil => intro x o h; cases h
 | kD l ih =>
  intro x o h
  rcases List.mem_cons.mp h with h | h
  .cases h; exact ⟨.head _, .inl ⟨_, rfl, .head _⟩⟩
  .obtain ⟨a, b⟩ := ih x o h
   refine ⟨.tail _ a, b.imp (fun ⟨v, e, q⟩ => ⟨v, e, .tail _ q⟩) fun ⟨e, q⟩ => ⟨e, fun nd v hv => ?_⟩⟩
   have dg := List.nodup_cons.mp nd
   rcases List.mem_cons.mp hv with hv | hv
   .cases hv; exact dg.1 (List.mem_map.mpr ⟨_, a, rfl⟩)
   .exact q dg.2 v hv
 | gN l ih =>
  intro x o h
  obtain ⟨a, b⟩ := ih x o h
  refine ⟨.tail _ a, b.imp (fun ⟨v, e, q⟩ => ⟨v, e, .tail _ q⟩) fun ⟨e, q⟩ => ⟨e, fun nd v hv => ?_⟩⟩
  have dg := List.nodup_cons.mp nd
  rcases List.mem_cons.mp hv with hv | hv
  .cases hv; exact dg.1 (List.mem_map.mpr ⟨_, a, rfl⟩)
  .exact q dg.2 v hv
 | cell l ih =>
  intro x o h
  rcases List.mem_cons.mp h with h | h
  .cases h; exact ⟨.head _, .inr ⟨rfl, fun _ _ q => nomatch q⟩⟩
  .obtain ⟨a, b⟩ := ih x o h
   exact ⟨.tail _ a, b.imp id fun ⟨e, _⟩ => ⟨e, fun _ _ q => nomatch q⟩⟩
 | «local» l ih =>
  intro x o h
  obtain ⟨a, b⟩ := ih x o h
  exact ⟨.tail _ a, b.imp id fun ⟨e, _⟩ => ⟨e, fun _ _ q => nomatch q⟩⟩
 | other _ _ l ih =>
  intro x o h
  obtain ⟨a, b⟩ := ih x o h
  exact ⟨.tail _ a, b.imp id fun ⟨e, _⟩ => ⟨e, fun _ _ q => nomatch q⟩⟩
def Lay.wz (l : Lay names ps m cs) : ∀ x v, (x, v) ∈ ps -> (x, NameKind.local) ∈ names \/ (x, NameKind.cell) ∈ names := by
 induction l with
 | nil => intro x v h; cases h
 | gN l ih => intro x v h; exact (List.mem_cons.mp h).elim (fun h => by cases h; exact .inl (.head _)) fun h => (ih x v h).imp (.tail _) (.tail _)
 | kD l ih => intro x v h; exact (List.mem_cons.mp h).elim (fun h => by cases h; exact .inr (.head _)) fun h => (ih x v h).imp (.tail _) (.tail _)
 | _ => intro x v h; contradiction
def Lay.wA (l : Lay names ps m cs) (nd : (names.map (·.1)).Nodup) : (ps.map (·.1)).Nodup := by
 induction l with
 | nil => exact .nil
 | gN l ih =>
  have dg := List.nodup_cons.mp nd
  refine List.nodup_cons.mpr ⟨fun q => ?_, ih dg.2⟩
  obtain ⟨⟨x, o⟩, h, e⟩ := List.mem_map.mp q
  cases e
  rcases l.wz _ _ h with h | h <;> exact dg.1 (List.mem_map.mpr ⟨_, h, rfl⟩)
 | kD l ih =>
  have dg := List.nodup_cons.mp nd
  refine List.nodup_cons.mpr ⟨fun q => ?_, ih dg.2⟩
  obtain ⟨⟨x, o⟩, h, e⟩ := List.mem_map.mp q
  cases e
  rcases l.wz _ _ h with h | h <;> exact dg.1 (List.mem_map.mpr ⟨_, h, rfl⟩)
 | _ => exact .nil
def lookup_mem {α : Type} {ps : List (Str × α)} (nd : (ps.map (·.1)).Nodup) {x : Str} {v : α} (h : (x, v) ∈ ps) : ps.lookup x = some v := by
 induction ps with
 | nil => contradiction
 | cons p r ih =>
  have dg := List.nodup_cons.mp nd
  obtain ⟨y, k'⟩ := p
  rcases List.mem_cons.mp h with h | h
  .cases h; simp [List.lookup]
  .have : (x == y) = false := by
    apply beq_eq_false_iff_ne.mpr
    intro e
    exact dg.1 (List.mem_map.mpr ⟨_, h, e⟩)
   simp [List.lookup, this, ih dg.2 h]
def ck {names : List (Str × NameKind)} (nd : (names.map (·.1)).Nodup) {x : Str} {k : NameKind} (h : (x, k) ∈ names) : names.lookup x = some k := lookup_mem nd h
end
def sP (kindOf : Str -> Option NameKind) : ∀ (bs : List (Str × Value)) (m : Str -> Option Value), (bs.map (·.1)).Nodup -> ∀ x, kindOf x = some .local ->
  bindL kindOf bs m x = ((bs.lookup x).or (m x)) := by
 intro bs; induction bs with
 | nil => intro m _ x _; rfl
 | cons b r ih =>
  intro m nd x hx
  have dg := List.nodup_cons.mp nd
  obtain ⟨n, v⟩ := b
  unfold bindL
  rw [ih _ dg.2 x hx]
  by_cases e : x = n
  .subst e
   have : r.lookup x = none := by
    cases q : r.lookup x with
    | none => rfl
    | some u => exact absurd (List.mem_map_of_mem (f := Prod.fst) (mem_of_lookup q)) dg.1
   rw [this, if_pos hx]
   simp [List.lookup]
  .have b : (x == n) = false := beq_eq_false_iff_ne.mpr e
   simp only [List.lookup, b]
   congr 1
   split
   .exact if_neg e
   .rfl
def sQ (kindOf : Str -> Option NameKind) : ∀ (bs : List (Str × Value)) (m : Str -> Option Value), (bs.map (·.1)).Nodup -> ∀ x, kindOf x ≠ some .local ->
  bindC kindOf bs m x = ((bs.lookup x).or (m x)) := by
 intro bs; induction bs with
 | nil => intro m _ x _; rfl
 | cons b r ih =>
  intro m nd x hx
  have dg := List.nodup_cons.mp nd
  obtain ⟨n, v⟩ := b
  unfold bindC
  rw [ih _ dg.2 x hx]
  by_cases e : x = n
  .subst e
   have : r.lookup x = none := by
    cases q : r.lookup x with
    | none => rfl
    | some u => exact absurd (List.mem_map_of_mem (f := Prod.fst) (mem_of_lookup q)) dg.1
   rw [this, if_neg hx]
   simp [List.lookup]
  .have b : (x == n) = false := beq_eq_false_iff_ne.mpr e
   simp only [List.lookup, b]
   congr 1
   split
   .rfl
   .exact if_neg e
def lM {V : Addr -> Prop} {h : Heap} : ∀ {ns : List Str} {vs : List Value} {xs : List AV}, ah V h vs xs -> ∀ {x : Str}, jV V h ((ns.zip vs).lookup x) ((ns.zip xs).lookup x) := by
 intro ns; induction ns with
 | nil => intro _ _ _ _; trivial
 | cons n ns ih =>
  intro vs xs r x
  cases r with
  | nil => trivial
  | cons r rs =>
  dsimp only [List.zip_cons_cons, List.lookup]
  cases q : x == n with
  | true => exact r
  | false => exact ih rs
def lN {α : Type} {ps : List (Str × α)} {x : Str} (h : ∀ v, (x, v) ∉ ps) : ps.lookup x = none := by
 cases q : ps.lookup x with
 | none => rfl
 | some u => exact absurd (mem_of_lookup q) (h u)
noncomputable def iH : aN -> AV
 | .ret v => v
 | _ => .raw .none
section
variable {Γ ag R : aa}
def gi : ∀ (cs : List (Str × Option AV)) (n : Nat) (p : Addr × bG), p ∈ aE n cs -> ∃ x o k, p = (n + k, .cell o) /\ (x, o) ∈ cs /\ cs[k]? = some (x, o) := by
 intro cs
 induction cs with
 | nil => intro n p h; contradiction
 | cons c r ih =>
  intro n p h
  obtain ⟨x, o⟩ := c
  rcases List.mem_cons.mp h with h | h
  .exact ⟨x, o, 0, h, .head _, rfl⟩
  .k_dflt obtain ⟨y, o', k, e1, q, e⟩ := ih (n + 1) p h
   refine ⟨y, o', k + 1, ?_, .tail _ q, e⟩
   rw [e1, Nat.add_assoc, Nat.add_comm 1 k]
theorem dG : ∀ (cs : List (Str × Option AV)) (n : Nat), keys (aE n cs) = List.range' n cs.length
 | [], n => rfl
 | (x, o) :: r, n => by
  show n :: keys (aE (n + 1) r) = _
  rw [dG r, List.length_cons, List.range'_succ]
def aM.frame {s s' : Shared} {L : Addr} {names : List (Str × NameKind)} {ns : List Str} {vs : List Value} {xs : List AV} {m cs : List (Str × Option AV)} {kindOf : Str -> Option NameKind}
  (S : aM G Γ s) (hL : L = s.heap.objs.size) (Es : kindOf = fun x => names.lookup x) (nd : (names.map (·.1)).Nodup) (l : Lay names (ns.zip xs) m cs) (r : ah (bc G Γ) s.heap vs xs) (hlen : ns.length = vs.length)
  (I : InCallC s L (bindL kindOf (ns.zip vs) fun _ => none) (cellsFrom (L + 1) names []) (bindC kindOf (ns.zip vs) fun _ => none) s') (hg : s'.gens = s.gens) (eK : s'.os = s.os) :
  aM G (aE (L + 1) cs ++ (L, .ns m) :: Γ) s' /\ Step G Γ s.heap (aE (L + 1) cs ++ (L, .ns m) :: Γ) s'.heap := by
 have hk := I.toInCall.keep
 have none_of : ∀ b, L <= b -> s.heap.get? b = none := fun b hb => by
  cases e : s.heap.get? b with
  | none => rfl
  | some o => exact absurd (Heap.lt_size e) (Nat.not_lt.mpr (hL ▸ hb))
 have klt : ∀ b ∈ keys Γ, b < L := fun b hb => by
  obtain ⟨o, e⟩ := S.there (.inr hb)
  exact hL ▸ Heap.lt_size e
 have Fn := l.wA nd
 have yY : (ns.zip vs).map (·.1) = ns := List.map_fst_zip (by tm_at "o")
 have Fo : (ns.zip xs).map (·.1) = ns := List.map_fst_zip (by have := r.length; tm_at "o")
 have Et : ((ns.zip vs).map (·.1)).Nodup := by rw [yY, <- Fo]; exact Fn
 refine S.go (fun b => L <= b) (fun b hb => .inr (none_of b hb)) (fun b ob e _ => hk b ob e) (fun p hp => ?_) (fun k p hp hC => ?_) ?_ hg eK
 .rcases List.mem_append.mp hp with hp | hp
  .obtain ⟨x, o, k, rfl, _⟩ := gi _ _ _ hp
   exact .inr (Nat.le_trans (Nat.le_succ L) (Nat.le_add_right (L + 1) k))
  .rcases List.mem_cons.mp hp with rfl | hp
   .exact .inr (Nat.le_refl _)
   .exact .inl hp
 .rcases List.mem_append.mp hp with hp | hp
  .obtain ⟨x, o, i, rfl, HA, hi⟩ := gi _ _ _ hp
   obtain ⟨hn, ho⟩ := l.lL x o HA
   have wB : kindOf x = some .cell := by rw [Es]; exact ck nd hn
   have Jp : (cellsFrom (L + 1) names []).lookup x = some (L + 1 + i) := by
    have lp : (x, L + 1 + i) ∈ cellsFrom (L + 1) names [] := by
     rw [l.cells, List.append_nil, List.mem_reverse]
     refine List.mem_iff_getElem?.mpr ⟨i, ?_⟩
     rw [List.getElem?_zip_eq_some]
     have Fp : i < cs.length := (List.getElem?_eq_some_iff.mp hi).1
     refine ⟨by rw [List.getElem?_map, hi]; rfl, ?_⟩
     rw [List.getElem?_range' Fp, Nat.one_mul]
    refine lookup_mem ?_ lp
    rw [l.cells, List.append_nil, List.map_reverse, List.map_fst_zip (by simp), (List.reverse_perm _).nodup_iff]
    clear lp hi HA hp
    have : ∀ {names ps m cs}, Lay names ps m cs -> (names.map (·.1)).Nodup -> (cs.map (·.1)).Nodup := by
     intro names ps m cs l nd
     induction l with
     | nil => exact .nil
     | kD l ih =>
      have dg := List.nodup_cons.mp nd
      refine List.nodup_cons.mpr ⟨fun q => ?_, ih dg.2⟩
      obtain ⟨⟨x, o⟩, h, e⟩ := List.mem_map.mp q
      cases e
      exact dg.1 (List.mem_map.mpr ⟨_, (l.lL _ _ h).1, rfl⟩)
     | cell l ih =>
      have dg := List.nodup_cons.mp nd
      refine List.nodup_cons.mpr ⟨fun q => ?_, ih dg.2⟩
      obtain ⟨⟨x, o⟩, h, e⟩ := List.mem_map.mp q
      cases e
      exact dg.1 (List.mem_map.mpr ⟨_, (l.lL _ _ h).1, rfl⟩)
     | gN l ih => exact ih (List.nodup_cons.mp nd).2
     | «local» l ih => exact ih (List.nodup_cons.mp nd).2
     | other _ _ l ih => exact ih (List.nodup_cons.mp nd).2
    exact this l nd
   refine ⟨_, I.cell x _ Jp, ?_⟩
   rw [sQ kindOf _ _ Et x (by rw [wB]; decide), Option.or_none]
   have z := lM (ns := ns) (r.keep k) (x := x)
   rcases ho with ⟨v, rfl, hv⟩ | ⟨rfl, hv⟩
   .rw [lookup_mem Fn hv] at z; exact z
   .rw [lN (hv nd)] at z; exact z
  .rcases List.mem_cons.mp hp with rfl | hp
   .refine ⟨_, I.toInCall.ns, l.yX nd, fun e he => ?_⟩
    obtain ⟨x, o⟩ := e
    obtain ⟨hn, ho⟩ := l.wy x o he
    have wB : kindOf x = some .local := by rw [Es]; exact ck nd hn
    dsimp only
    refine (sP kindOf _ _ Et x wB) ▸ Option.or_none ▸ ?_
    have z := lM (ns := ns) (r.keep k) (x := x)
    rcases ho with ⟨v, rfl, hv⟩ | ⟨rfl, hv⟩
    .rw [lookup_mem Fn hv] at z; exact z
    .rw [lN (hv nd)] at z; exact z
   .exact absurd (klt _ (List.mem_map_of_mem hp)) (Nat.not_lt.mpr hC)
 .show (keys (aE (L + 1) cs ++ (L, .ns m) :: Γ)).Nodup
  unfold keys
  rw [List.map_append]
  refine List.nodup_append.mpr ⟨?_, ?_, fun b hb c hc e => ?_⟩
  .have := dG cs (L + 1)
   unfold keys at this
   rw [this]; exact List.nodup_range'
  .exact List.nodup_cons.mpr ⟨fun q => Nat.lt_irrefl _ (klt _ q), S.nodup⟩
  .subst e
   have := dG cs (L + 1)
   unfold keys at this
   rw [this, List.mem_range'_1] at hb
   rcases List.mem_cons.mp hc with rfl | hc
   .exact Nat.not_lt.mpr hb.1 (Nat.lt_succ_self _)
   .exact absurd (klt _ hc) (Nat.not_lt.mpr (Nat.le_trans (Nat.le_succ _) hb.1))
def ni : ∀ (names : List (Str × NameKind)) (n : Nat) (acc : List (Str × Addr)) (x : Str), (∃ c, (x, c) ∈ acc) -> ∃ c, (x, c) ∈ cellsFrom n names acc := by
 intro names; induction names with
 | nil => intro n acc x h; exact h
 | cons y r ih =>
  intro n acc x h
  obtain ⟨y, k⟩ := y
  unfold cellsFrom
  split
  .exact ih _ _ x (h.imp fun _ h => .tail _ h)
  .exact ih _ _ x h
def nj : ∀ (names : List (Str × NameKind)) (n : Nat) (acc : List (Str × Addr)) (x : Str), (x, NameKind.cell) ∈ names -> ∃ c, (x, c) ∈ cellsFrom n names acc := by
 intro names; induction names with
 | nil => intro n acc x h; cases h
 | cons y r ih =>
  intro n acc x h
  obtain ⟨y, k⟩ := y
  unfold cellsFrom
  k_dflt rcases List.mem_cons.mp h with h | h
  .cases h
   exact ni r _ _ _ ⟨n, .head _⟩
  .split
   .exact ih _ _ x h
   .exact ih _ _ x h
def lookup_some {α : Type} {l : List (Str × α)} {x : Str} {c : α} (h : (x, c) ∈ l) : (l.lookup x).isSome = true := by
 induction l with
 | nil => contradiction
 | cons p r ih =>
  obtain ⟨y, d⟩ := p
  rw [List.lookup_cons]
  cases q : x == y with
  | true => rfl
  | false =>
   rcases List.mem_cons.mp h with h | h
   .cases h; simp at q
   .exact ih h
noncomputable def sR (G : Base) (A : Around) (env : Env) (X : Value -> Shared -> Prop) : Value -> Shared -> Prop := fun e s' =>
 wpAny G.M (A.deeper env) (leaving env e) (fun _ Be => X e Be) (fun e' Be => X e' Be) s'
structure WF (G : Base) (A : Around) (X : Value -> Shared -> Prop) (f : Value) (xs : List AV) (Γ : aa) (Q : AV -> aa -> Prop) : Prop where
 go : ∀ s vs, aM G Γ s -> ah (bc G Γ) s.heap vs xs -> codeAny G.M A (.call f ⟨vs, []⟩) (fun r s' => match r with | .ok (.ret v) => gv G Γ s.heap Rep Q v s' | .ok _ => False | .error e => X e s') s
def WC.jh {f : Value} {xs : List AV} {Q : AV -> aa -> Prop} (h : WF G A X f xs Γ Q) : WC G A X f xs Γ Q := .mk fun s vs S r => wpAny_call (h.go s vs S r)
def WF.fn {f : Addr} {oc : Value} {od : Option Addr} {ng : Array (Option Value)} {name qual : Str} {params : Arguments} {body : List Stmt} {scope : Scope} {dV kV doc pm cV ct : Value} {an : Option Addr} {xs ys : List AV} {ds : List Value}
  {m cs : List (Str × Option AV)} {ns : List Str} {n : Nat} {Q : AV -> aa -> Prop}
  (hK : G.K.lookup f = some ⟨oc, od, .func (fnOf name qual params body scope dV kV doc pm an cV ct), ng⟩) (gG : codeIn G.K cV qual = true) (hR : aj A (n + 1))
  (hb : ∀ s vs, aM G Γ s -> vs.length = xs.length -> BindsTo s (fnOf name qual params body scope dV kV doc pm an cV ct) ⟨vs, []⟩ (ns.zip (vs ++ ds)))
  (wa : ∀ s, aM G Γ s -> ah (bc G Γ) s.heap ds ys) (hlen : ns.length = (xs ++ ys).length)
  (nd : (scope.names.map (·.1)).Nodup) (l : Lay scope.names (ns.zip (xs ++ ys)) m cs)
  (h : ∀ L, aj (A.deeper (callEnvC (fnOf name qual params body scope dV kV doc pm an cV ct) L f)) n ->
   WS G (A.deeper (callEnvC (fnOf name qual params body scope dV kV doc pm an cV ct) L f)) (sR G A (callEnvC (fnOf name qual params body scope dV kV doc pm an cV ct) L f) X)
    (callEnvC (fnOf name qual params body scope dV kV doc pm an cV ct) L f) body (aE (L + 1) cs ++ (L, .ns m) :: Γ) fun fl ae => Fin G Q (iH fl) ae)
  (iS : autoParam (scope.isCoroutine = false) aR) (cW : autoParam (scope.isGenerator = false) aR) (hk : autoParam (scope.kind = .function) aR) : WF G A X (.ref f) xs Γ Q := .mk fun s vs S r => by
 refine codeAny_mono (R := fun r s' => match r with | .ok (.ret v) => gv G Γ s.heap Rep (Fin G Q) v s' | .ok _ => False | .error e => X e s') ?_ fun r s' z => ?_
 rotate_left
 .rcases r with e | (v | _ | _ | _) <;> first | exact z | skip
  k_dflt obtain ⟨b, ae, r, S', T', CW, jd, ⟨w, t⟩, q⟩ := z
  exact ⟨CW, jd, t _ _ S' r, w.sim S', T'.trans w.step, q⟩
 have rr := r.append (wa s S)
 have Eu : ns.length = (vs ++ ds).length := by rw [hlen, rr.length]
 have Et : ((ns.zip (vs ++ ds)).map (·.1)) = ns := List.map_fst_zip (by tm_at "o")
 have Bf : (ns.zip (xs ++ ys)).map (·.1) = ns := List.map_fst_zip (by tm_at "o")
 refine codeAny_call_function (fd := fnOf name qual params body scope dV kV doc pm an cV ct) (body := body) hR.lt (S.iC _ _ hK) rfl iS cW rfl (codeRec_of S.iC gG) ?_
 refine hb s vs S r.length _ _ _ _ ?_
 refine wpAny_newFunctionEnv_cells hk (fun x hx => ?_) fun env he s' I => ?_
 .have Bg : x.1 ∈ ns := by rw [<- Et]; exact List.mem_map_of_mem hx
  replace Bg := Bf ▸ Bg
  k_dflt obtain ⟨⟨y, v⟩, Jq, e⟩ := List.mem_map.mp Bg
  subst e
  rcases l.wz _ _ Jq with q | q
  .exact .inl (ck nd q)
  .k_dflt obtain ⟨c, hc⟩ := nj scope.names (s.heap.objs.size + 1) [] _ q
   exact .inr ⟨ck nd q, lookup_some hc⟩
 .subst he
  have z := S.frame rfl (kindOf := fun x => scope.names.lookup x) rfl nd l rr Eu I (by obtain ⟨_, _, rfl, _⟩ := I.done; rfl) (by obtain ⟨_, _, rfl, _⟩ := I.done; rfl)
  refine ⟨S.lim.keeps I.toInCall.keep, codeAny_func ?_⟩
  refine wpAny_mono ((h s.heap.objs.size hR.deeper).go s' z.1) (fun fl Be zz => ?_) fun e Be x => x
  obtain ⟨af, ae, rf, S', T', q⟩ := zz
  induction rf with
  | ret rv => exact ⟨_, ae, rv, S', z.2.trans T', q⟩
  | _ => exact ⟨_, ae, .raw _, S', z.2.trans T', q⟩
end
end
section
section
variable {env : Env} {pos : Pos} {Γ ag R : aa} {Q : AV -> aa -> Prop}
structure Keeps (G : Base) (v : Value) (Γ : aa) : Prop where
 go : ∀ s, aM G Γ s -> ∃ k, (k = Keeper.frame \/ k = Keeper.machine \/ k = Keeper.boundFrame) /\ Looks G.M s.heap (keeperOf v) k
theorem Keeps.builtin {id : String} : Keeps G (.builtin id) Γ := .mk fun s S => ⟨.machine, .inr (.inl rfl), Looks.of_pure rfl⟩
theorem Keeps.type {n : String} : Keeps G (.type n) Γ := .mk fun s S => ⟨.machine, .inr (.inl rfl), Looks.of_pure rfl⟩
def Keeps.of_K {v : Value} (h : keepIn G.K v = true) : Keeps G v Γ := .mk fun s S => keeps_K h _ S.iC
def Keeps.own {a : Addr} {oc : Value} {od : Option Addr} {fd : FuncData} {sl : Array (Option Value)} (p : aC a (.obj ⟨oc, od, .func fd, sl⟩) Γ R) : Keeps G (.ref a) Γ := .mk fun s S =>
 keeps_F s.heap ⟨oc, od, fd, sl, S.at p⟩
def iL {s : Shared} {v : Value} {first : List Value} {ys : List AV} {es : List Expr} (S : aM G Γ s) (rf : ah (bc G Γ) s.heap first ys)
  (h : ll G A X env es Γ fun xs ai => Keeps G v ai /\ WC G A X v (ys ++ xs) ai Q) (hp : (backTo pos (starEach es env)).any (·.1) = false) (hs : ∀ e r, es = e :: r -> starEach (e :: r) env = (false, eval e env) :: starEach r env) :
  Tr G A X (callWith pos v first (backTo pos (starEach es env)) []) Rep Γ Q s := by
 refine callWith_of (P := fun h => ∃ k, (k = Keeper.frame \/ k = Keeper.machine \/ k = Keeper.boundFrame) /\ Looks G.M h (keeperOf v) k) (by rw [hp]; rfl) (fun h e => e) ?_
 cases es with
 | nil =>
  skip
  skip
  refine wpAny_bind ((h.go pos s S).seq fun vs xs ai aW r bp bx ⟨hk, hw⟩ => wpAny_bind (wpAny_pure ?_))
  refine wpAny_holding ?_
  exact wpAny_bind (wpAny_pure (wpAny_bind (wpAny_pure (wpAny_pure ⟨hk.go aW bp, (hw.go aW _ bp ((rf.keep bx.az).append r)).back bx⟩))))
 | cons e r =>
  rw [hs e r rfl]
  refine evalArgs_plain ?_
  have := h.go pos s S
  rw [hs e r rfl] at this
  refine this.seq fun vs xs ai aW r bp bx ⟨hk, hw⟩ => ⟨hk.go aW bp, (hw.go aW _ bp ((rf.keep bx.az).append r)).back bx⟩
noncomputable def b7 (es : List Expr) : Bool := es.all notStar
def dH {es : List Expr} (h : b7 es = true) : (∀ e r, es = e :: r -> starEach (e :: r) env = (false, eval e env) :: starEach r env) /\ (backTo pos (starEach es env)).any (·.1) = false := by
 induction es with
 | nil => exact ⟨(fun _ _ e => by contradiction), rfl⟩
 | cons e r ih =>
  have key : starEach (e :: r) env = (false, eval e env) :: starEach r env /\ b7 r = true := by
   have h := Bool.and_eq_true_iff.mp h
   exact ⟨gJ h.1, h.2⟩
  refine ⟨fun e' r' q => by cases q; exact key.1, ?_⟩
  rw [key.1]
  show (false || (backTo pos (starEach r env)).any (·.1)) = false
  rw [(ih key.2).2]; rfl
noncomputable def notAttr (e : Expr) : Bool := e.ctorIdx != 20
def uY {f : Expr} {es : List Expr} (h : notAttr f = true) : eval (.Call f es [] pos) env = (do callWith pos (<- eval f env) [] (backTo pos (starEach es env)) (backToKw pos (keywordEach [] env))) := by cases f <;> first | rfl | contradiction
abbrev Bh (G : Base) (A : Around) (X : Value -> Shared -> Prop) (v : Value) (Q : AV -> aa -> Prop) (ys xs : List AV) (Γ : aa) : Prop := WC G A X v (ys ++ xs) Γ Q
abbrev Bi (G : Base) (A : Around) (X : Value -> Shared -> Prop) (v : Value) (Q : AV -> aa -> Prop) (xs : List AV) (Γ : aa) : Prop := Keeps G v Γ /\ WC G A X v xs Γ Q
abbrev Bj (G : Base) (A : Around) (X : Value -> Shared -> Prop) (env : Env) (es : List Expr) (Q : AV -> aa -> Prop) (fv : AV) (Γ : aa) : Prop := ∃ v, fv = .raw v /\ ll G A X env es Γ (Bi G A X v Q)
def WE.call {f : Expr} {es : List Expr} {Γ : aa} {Q : AV -> aa -> Prop} (h : WE G A X env f Γ (Bj G A X env es Q)) (hp : autoParam (b7 es = true) aU)
  (he : autoParam (notAttr f = true) aU) : WE G A X env (.Call f es [] pos) Γ Q := .mk fun s S =>
 Call_ ((h.go s S).seq fun u fv ag ay r ax aG zz => by
  k_dflt obtain ⟨v, e, bk⟩ := zz
  subst e; apply Rep.bX r
  exact (iL ax .nil (by exact bk) (dH hp).2 (dH (pos := pos) hp).1).back aG) (uY he)
inductive Ay (G : Base) (Γ : aa) (h : Heap) (Q : Value -> List AV -> aa -> Prop) (fx : Value × List Value) (s' : Shared) : Prop
 | mk (xs : List AV) (ae : aa) (r : ah (bc G ae) s'.heap fx.2 xs) (S : aM G ae s') (T : Step G Γ h ae s'.heap) (k : ∀ Γ, Keeps G fx.1 Γ) (q : Q fx.1 xs ae)
structure WM (G : Base) (A : Around) (X : Value -> Shared -> Prop) (name : Str) (o : AV) (Γ : aa) (Q : Value -> List AV -> aa -> Prop) : Prop where
 go : ∀ pl s v, aM G Γ s -> Rep (bc G Γ) s.heap v o -> wpAny G.M A (getMethod v name pl) (Ay G Γ s.heap Q) X s
theorem ll.mono {es : List Expr} {Γ : aa} {Q Q' : List AV -> aa -> Prop} (h : ll G A X env es Γ Q) (k : ∀ v ae, Q v ae -> Q' v ae) : ll G A X env es Γ Q' := .mk fun pos s S => (h.go pos s S).mono k
abbrev Bk (G : Base) (A : Around) (X : Value -> Shared -> Prop) (env : Env) (es : List Expr) (Q : AV -> aa -> Prop) (f : Value) (ys : List AV) (Γ : aa) : Prop := ll G A X env es Γ (Bh G A X f Q ys)
abbrev Bl (G : Base) (A : Around) (X : Value -> Shared -> Prop) (env : Env) (name : Str) (es : List Expr) (Q : AV -> aa -> Prop) (ov : AV) (Γ : aa) : Prop := WM G A X name ov Γ (Bk G A X env es Q)
def WE.HB {o : Expr} {name : Str} {apos : Pos} {es : List Expr} {pl : Sem Bool} {Γ : aa} {Q : AV -> aa -> Prop} (h : WE G A X env o Γ (Bl G A X env name es Q))
  (hp : autoParam (b7 es = true) aU)
  (he : autoParam (eval (.Call (.Attribute o name apos) es [] pos) env = (do
   let ov <- eval o env
   standAt apos.atName
   let (f, first) <- holding [ov] (getMethod ov name pl)
   callWith pos f first (backTo pos (starEach es env)) [])) aR) : WE G A X env (.Call (.Attribute o name apos) es [] pos) Γ Q := .mk fun s S =>
 MethodCall_ (pl := pl) ((h.go s S).seq fun v ov ag ay r ax aG bk => wpAny_mono (bk.go pl ay v ax r) (fun fx aW ⟨ys, ai, rf, bp, bx, k, gx⟩ =>
  (iL bp rf (ll.mono gx fun _ Γ q => ⟨k Γ, q⟩) (dH hp).2 (dH (pos := pos) hp).1).back (aG.trans bx)) fun _ _ e => e) he
end
structure aA (env : Env) (names : List (Str × NameKind)) (L : Addr) (cl : List (Str × Addr)) : Prop where
 hn : env.scope.names = names
 kind : env.scope.kind = .function
 nd : (names.map (·.1)).Nodup
 nb : ∀ p ∈ names, (p.1 == ("__debug__" : Str)) = false /\ (p.1 == ("__classdict__" : Str)) = false
 locals : env.locals = L
 globals : env.globals = mainGlobals
 builtins : env.builtins = builtinsNs
 cells : ∀ x c, (x, c) ∈ cl -> env.cells.lookup x = some c
noncomputable def bD : Addr -> List (Str × Option AV) -> List (Str × Addr)
 | _, [] => []
 | n, (x, _) :: r => (x, n) :: bD (n + 1) r
noncomputable def bz (names : List (Str × NameKind)) : Bool := decide (names.map (·.1)).Nodup && names.all fun p => !(p.1 == ("__debug__" : Str)) && !(p.1 == ("__classdict__" : Str))
section
variable {env : Env} {names : List (Str × NameKind)} {cl : List (Str × Addr)} {pos : Pos} {Γ ag R : aa} {L : Addr} {x : Str}
theorem aA.kindOf (ok : aA env names L cl) {k : NameKind} (h : (x, k) ∈ names) : env.kindOf x = some k := by
 show env.scope.names.lookup x = some k
 rw [ok.hn]; exact ck ok.nd h
theorem Nm.local {pos : Pos} (ok : aA env names L cl) {x : Str} (hx : (x, .local) ∈ names) {Γ R : aa} {m : List (Str × Option AV)} (p : aC L (.ns m) Γ R) {v : AV} (hm : (x, some v) ∈ m) {Q : AV -> aa -> Prop} (q : Q v Γ) : WE G A X env (.Name x pos) Γ Q :=
 WE.local (ok.kindOf hx) (by rw [ok.locals]; exact p) hm q ok.kind (ok.nb _ hx).1
theorem Nm.cell (ok : aA env names L cl) {x : Str} (hx : (x, .cell) ∈ names) {c : Addr} (hc : (x, c) ∈ cl) {Γ R : aa} {v : AV} (p : aC c (.cell (some v)) Γ R) {Q : AV -> aa -> Prop} (q : Q v Γ) : WE G A X env (.Name x pos) Γ Q :=
 WE.cell (ok.kindOf hx) (ok.cells _ _ hc) p q ok.kind (ok.nb _ hx).1
theorem Nm.free (ok : aA env names L cl) {x : Str} (hx : (x, .free) ∈ names) {c : Addr} (hc : (x, c) ∈ cl) {Γ R : aa} {v : AV} (p : aC c (.cell (some v)) Γ R) {Q : AV -> aa -> Prop} (q : Q v Γ) : WE G A X env (.Name x pos) Γ Q :=
 WE.free (ok.kindOf hx) (ok.cells _ _ hc) p q ok.kind (ok.nb _ hx).1 (ok.nb _ hx).2
theorem Nm.global (ok : aA env names L cl) {x : Str} (hx : (x, .globalImplicit) ∈ names) {v : Value} (e : G.mg x = some v) {y : AV} (sr : fL G v y) {Γ : aa} {Q : AV -> aa -> Prop} (q : Q y Γ) : WE G A X env (.Name x pos) Γ Q :=
 WE.global (ok.kindOf hx) ok.globals e sr q ok.kind (ok.nb _ hx).1
theorem Nm.builtin (ok : aA env names L cl) {x : Str} (hx : (x, .globalImplicit) ∈ names) {v : Value} (n : G.mg x = none) (e : G.mb x = some v) {Γ : aa} {Q : AV -> aa -> Prop} (q : Q (.raw v) Γ) : WE G A X env (.Name x pos) Γ Q :=
 WE.builtin (ok.kindOf hx) ok.globals ok.builtins n e q ok.kind (ok.nb _ hx).1
theorem St.local (ok : aA env names L cl) {x : Str} (hx : (x, .local) ∈ names) {Γ R : aa} {m m' : List (Str × Option AV)} (p : aC L (.ns m) Γ R) {y : AV} (hm : nZ m x y m') {Q : aa -> Prop} (q : Q ((L, .ns m') :: R)) : WA G A X env (.Name x pos) y Γ Q :=
 WA.local (ok.kindOf hx) (by rw [ok.locals]; exact p) hm (by rw [ok.locals]; exact q) ok.kind
def lO {s : Shared} {v : Value} {y : AV} {o : Option AV} {c : Addr} {Q : aa -> Prop} (hx : env.kindOf x = some .cell) (hc : env.cells.lookup x = some c) (p : aC c (.cell o) Γ R) (S : aM G Γ s) (r : Rep (bc G Γ) s.heap v y)
  (q : Q ((c, .cell (some y)) :: R)) (hk : env.scope.kind = .function) : Tr G A X (storeName env x v) (pq (γ := Unit)) Γ (fun _ => Q) s := by
 k_dflt obtain ⟨u, hu, ru⟩ := S.at p
 refine wpAny_storeName_cell hk hx hc hu fun h' hv hs => ?_
 have z := S.change (s' := { s with heap := h' }) (o' := .cell (some y)) p hs rfl rfl fun k => ⟨some v, hv, r.keep k⟩
 exact .here rfl z.1 z.2 q
theorem St.cell {Q : aa -> Prop} {y : AV} {o : Option AV} {c : Addr} (ok : aA env names L cl) (hx : (x, .cell) ∈ names) (hc : (x, c) ∈ cl) (p : aC c (.cell o) Γ R) (q : Q ((c, .cell (some y)) :: R)) : WA G A X env (.Name x pos) y Γ Q := .mk fun s v S r => by
 rw [arm_assign_Name]
 exact wpAny_bind (wpAny_standAt (wpAny_bindName (lO (ok.kindOf hx) (ok.cells _ _ hc) p S r q ok.kind)))
noncomputable def px (t e : Expr) : Bool := (Nat.ble e.ctorIdx 7 || Nat.ble 11 e.ctorIdx) && (t.ctorIdx != 22 && (t.ctorIdx != 24 && (t.ctorIdx != 25 || e.ctorIdx != 25)))
def sS {t e : Expr} {k : Nat} (h : px t e = true) : swapsWithSole [t] e k env = pure false /\ swappedStores [t] e env = pure none /\ assignEach [t] env = [(false, PySem.assign t env)] := by
 replace h := Bool.and_eq_true_iff.mp h
 refine ⟨?_, ?_, ?_⟩
 .replace h := h.1
  cases e <;> first | rfl | cases h
 .replace h := h.2
  cases t <;> first | rfl | cases h | (cases e <;> first | rfl | cases h)
 .replace h := (Bool.and_eq_true_iff.mp h.2).1
  cases t <;> first | rfl | cases h
def W1.pz {t e : Expr} {Γ : aa} {Q : aN -> aa -> Prop} (h : WE G A X env e Γ (Fi G A X env t Q))
  (hs : swapsWithSole [t] e pos.line env = pure false) (hw : swappedStores [t] e env = pure none) (he : autoParam (assignEach [t] env = [(false, PySem.assign t env)]) aR) : W1 G A X env (.Assign [t] e pos) Γ Q := .mk fun s S => by
 show wpAny _ _ _ _ _ _
 rw [exec_Assign]
 refine wpAny_bind (wpAny_standAt ?_)
 refine hs ▸ ?_
 refine wpAny_bind (wpAny_pure ?_)
 skip
 refine wpAny_bind ((h.go s S).seq fun v y ag ay r ax aG bk => ?_)
 rw [hw]
 refine wpAny_bind (wpAny_pure ?_)
 rw [he]
 show wpAny _ _ (do assignAll v [PySem.assign t env]; pure Flow.next) _ _ _
 refine wpAny_bind ((bk.go ay v ax r).seq fun _ _ ai aW _ bp bx q => wpAny_pure (gv.here (b := aN.next) .next bp (aG.trans bx) q))
def W1.assign {t e : Expr} {Γ : aa} {Q : aN -> aa -> Prop} (h : WE G A X env e Γ (Fi G A X env t Q)) (hn : px t e = true) : W1 G A X env (.Assign [t] e pos) Γ Q :=
 let z := sS (env := env) (k := pos.line) hn
 W1.pz h z.1 z.2.1 z.2.2
end
section
abbrev Jr (Q : AV -> aa -> Prop) (a : AV) (Γ : aa) : Prop := Q (.tup [a]) Γ
abbrev Fq (Q : AV -> aa -> Prop) (a b : AV) (Γ : aa) : Prop := Q (.tup [a, b]) Γ
abbrev Js (G : Base) (A : Around) (X : Value -> Shared -> Prop) (env : Env) (e2 : Expr) (Q : AV -> aa -> Prop) (a : AV) (Γ : aa) : Prop := WE G A X env e2 Γ (Fq Q a)
abbrev Fs (Q : AV -> aa -> Prop) (a b c : AV) (Γ : aa) : Prop := Q (.tup [a, b, c]) Γ
abbrev Ft (G : Base) (A : Around) (X : Value -> Shared -> Prop) (env : Env) (e3 : Expr) (Q : AV -> aa -> Prop) (a b : AV) (Γ : aa) : Prop := WE G A X env e3 Γ (Fs Q a b)
abbrev Jt (G : Base) (A : Around) (X : Value -> Shared -> Prop) (env : Env) (e2 e3 : Expr) (Q : AV -> aa -> Prop) (a : AV) (Γ : aa) : Prop := WE G A X env e2 Γ (Ft G A X env e3 Q a)
abbrev Ju (G : Base) (A : Around) (X : Value -> Shared -> Prop) (Q : AV -> aa -> Prop) (fv : AV) (Γ : aa) : Prop := ∃ v, fv = .raw v /\ Keeps G v Γ /\ WC G A X v [] Γ Q
abbrev Fu (G : Base) (A : Around) (X : Value -> Shared -> Prop) (v : Value) (Q : AV -> aa -> Prop) (a : AV) (Γ : aa) : Prop := Keeps G v Γ /\ WC G A X v [a] Γ Q
abbrev Jv (G : Base) (A : Around) (X : Value -> Shared -> Prop) (env : Env) (e1 : Expr) (Q : AV -> aa -> Prop) (fv : AV) (Γ : aa) : Prop := ∃ v, fv = .raw v /\ WE G A X env e1 Γ (Fu G A X v Q)
abbrev Fv (G : Base) (A : Around) (X : Value -> Shared -> Prop) (v : Value) (Q : AV -> aa -> Prop) (a b : AV) (Γ : aa) : Prop := Keeps G v Γ /\ WC G A X v [a, b] Γ Q
abbrev Fw (G : Base) (A : Around) (X : Value -> Shared -> Prop) (env : Env) (v : Value) (e2 : Expr) (Q : AV -> aa -> Prop) (a : AV) (Γ : aa) : Prop := WE G A X env e2 Γ (Fv G A X v Q a)
abbrev Jw (G : Base) (A : Around) (X : Value -> Shared -> Prop) (env : Env) (e1 e2 : Expr) (Q : AV -> aa -> Prop) (fv : AV) (Γ : aa) : Prop := ∃ v, fv = .raw v /\ WE G A X env e1 Γ (Fw G A X env v e2 Q)
abbrev Fx (G : Base) (A : Around) (X : Value -> Shared -> Prop) (v : Value) (Q : AV -> aa -> Prop) (a b c : AV) (Γ : aa) : Prop := Keeps G v Γ /\ WC G A X v [a, b, c] Γ Q
abbrev Fy (G : Base) (A : Around) (X : Value -> Shared -> Prop) (env : Env) (v : Value) (e3 : Expr) (Q : AV -> aa -> Prop) (a b : AV) (Γ : aa) : Prop := WE G A X env e3 Γ (Fx G A X v Q a b)
abbrev Fz (G : Base) (A : Around) (X : Value -> Shared -> Prop) (env : Env) (v : Value) (e2 e3 : Expr) (Q : AV -> aa -> Prop) (a : AV) (Γ : aa) : Prop := WE G A X env e2 Γ (Fy G A X env v e3 Q a)
abbrev Jx (G : Base) (A : Around) (X : Value -> Shared -> Prop) (env : Env) (e1 e2 e3 : Expr) (Q : AV -> aa -> Prop) (fv : AV) (Γ : aa) : Prop := ∃ v, fv = .raw v /\ WE G A X env e1 Γ (Fz G A X env v e2 e3 Q)
variable {env : Env} {pos : Pos} {k : Nat}
def FA {n : Nat} (h : Nat.ble n 1000 = true) : n <= sizeLine := Nat.le_trans (Nat.le_of_ble_eq_true h) (by rw [sizeLine_eq]; decide)
def b8 {e : Expr} {r : List Expr} (h : notStar e = true) (h' : b7 r = true) : b7 (e :: r) = true := Bool.and_eq_true_iff.mpr ⟨h, h'⟩
theorem WE.mono {e : Expr} {Γ : aa} {Q Q' : AV -> aa -> Prop} (h : WE G A X env e Γ Q) (k : ∀ v ae, Q v ae -> Q' v ae) : WE G A X env e Γ Q' := .mk fun s S => (h.go s S).mono k
def WE.tuple1 {e1 : Expr} {Γ : aa} {Q : AV -> aa -> Prop} (h : WE G A X env e1 Γ (Jr Q)) (n1 : autoParam (notStar e1 = true) aU) : WE G A X env (.Tuple [e1] k pos) Γ Q :=
 .tuple (.cons (h.mono fun _ _ q => .nil ⟨FA rfl, q⟩) n1)
def WE.FC {e1 e2 : Expr} {Γ : aa} {Q : AV -> aa -> Prop} (h : WE G A X env e1 Γ (Js G A X env e2 Q)) (n1 : autoParam ((notStar e1 && notStar e2) = true) aU) : WE G A X env (.Tuple [e1, e2] k pos) Γ Q :=
 .tuple (.cons (h.mono fun _ _ h => .cons (h.mono fun _ _ q => .nil ⟨FA rfl, q⟩) (Bool.and_eq_true_iff.mp n1).2) (Bool.and_eq_true_iff.mp n1).1)
def WE.FD {e1 e2 e3 : Expr} {Γ : aa} {Q : AV -> aa -> Prop} (h : WE G A X env e1 Γ (Jt G A X env e2 e3 Q)) (n1 : autoParam ((notStar e1 && (notStar e2 && notStar e3)) = true) aU) : WE G A X env (.Tuple [e1, e2, e3] k pos) Γ Q :=
 have n := Bool.and_eq_true_iff.mp n1
 have m := Bool.and_eq_true_iff.mp n.2
 .tuple (.cons (h.mono fun _ _ h => .cons (h.mono fun _ _ h => .cons (h.mono fun _ _ q => .nil ⟨FA rfl, q⟩) m.2) m.1) n.1)
def WE.CX {f : Expr} {Γ : aa} {Q : AV -> aa -> Prop} (h : WE G A X env f Γ (Ju G A X Q)) (he : autoParam (notAttr f = true) aU) : WE G A X env (.Call f [] [] pos) Γ Q :=
 .call (h.mono fun _ _ zz => (by refine gF fun Z => ?_; obtain ⟨v, e, h⟩ := zz; exact Z (⟨v, e, .nil h⟩))) rfl he
def WE.CY {f e1 : Expr} {Γ : aa} {Q : AV -> aa -> Prop} (h : WE G A X env f Γ (Jv G A X env e1 Q)) (he : autoParam ((notAttr f && notStar e1) = true) aU) : WE G A X env (.Call f [e1] [] pos) Γ Q :=
 have n := Bool.and_eq_true_iff.mp he
 .call (h.mono fun _ _ zz => (by refine gF fun Z => ?_; obtain ⟨v, e, h⟩ := zz; exact Z (⟨v, e, .cons (h.mono fun _ _ q => .nil q) n.2⟩))) (b8 n.2 rfl) n.1
def WE.call2 {f e1 e2 : Expr} {Γ : aa} {Q : AV -> aa -> Prop} (h : WE G A X env f Γ (Jw G A X env e1 e2 Q)) (he : autoParam ((notAttr f && (notStar e1 && notStar e2)) = true) aU) : WE G A X env (.Call f [e1, e2] [] pos) Γ Q :=
 have n := Bool.and_eq_true_iff.mp he
 have m := Bool.and_eq_true_iff.mp n.2
 .call (h.mono fun _ _ zz => (by refine gF fun Z => ?_; obtain ⟨v, e, h⟩ := zz; exact Z (⟨v, e, .cons (h.mono fun _ _ h => .cons (h.mono fun _ _ q => .nil q) m.2) m.1⟩))) (b8 m.1 (b8 m.2 rfl)) n.1
def WE.CZ {f e1 e2 e3 : Expr} {Γ : aa} {Q : AV -> aa -> Prop} (h : WE G A X env f Γ (Jx G A X env e1 e2 e3 Q)) (he : autoParam ((notAttr f && (notStar e1 && (notStar e2 && notStar e3))) = true) aU) : WE G A X env (.Call f [e1, e2, e3] [] pos) Γ Q :=
 have n := Bool.and_eq_true_iff.mp he
 have m := Bool.and_eq_true_iff.mp n.2
 have l := Bool.and_eq_true_iff.mp m.2
 .call (h.mono fun _ _ zz => (by obtain ⟨v, e, h⟩ := zz; exact ⟨v, e, .cons (h.mono fun _ _ h => .cons (h.mono fun _ _ h => .cons (h.mono fun _ _ q => .nil q) l.2) l.1) m.1⟩)) (b8 m.1 (b8 l.1 (b8 l.2 rfl))) n.1
structure aX (G : Base) (f : Str) (v : Value) : Prop where
 g : G.mg f = some v \/ (G.mg f = Option.none /\ G.mb f = some v)
 k : ∀ Γ, Keeps G v Γ
section
variable {names : List (Str × NameKind)} {cl : List (Str × Addr)} {L : Addr} {f : Str} {v : Value} {fp : Pos}
def aX.at (t : aX G f v) (ok : aA env names L cl) (hf : (f, .globalImplicit) ∈ names) {Γ : aa} {Q : AV -> aa -> Prop} (q : Q (.raw v) Γ) : WE G A X env (.Name f fp) Γ Q :=
 t.g.elim (fun g => Nm.global ok hf g fL.raw q) fun g => Nm.builtin ok hf g.1 g.2 q
variable (G : Base) (A : Around) (X : Value -> Shared -> Prop) (env : Env)
abbrev kW (v : Value) (Q : AV -> aa -> Prop) (xs : List AV) (Γ : aa) : Prop := WC G A X v xs Γ Q
abbrev Jy (v : Value) (Q : AV -> aa -> Prop) (a : AV) (Γ : aa) : Prop := WC G A X v [a] Γ Q
abbrev FE (v : Value) (Q : AV -> aa -> Prop) (a b : AV) (Γ : aa) : Prop := WC G A X v [a, b] Γ Q
abbrev FF (v : Value) (e2 : Expr) (Q : AV -> aa -> Prop) (a : AV) (Γ : aa) : Prop := WE G A X env e2 Γ (FE G A X v Q a)
abbrev FG (v : Value) (Q : AV -> aa -> Prop) (a b c : AV) (Γ : aa) : Prop := WC G A X v [a, b, c] Γ Q
abbrev FH (v : Value) (e3 : Expr) (Q : AV -> aa -> Prop) (a b : AV) (Γ : aa) : Prop := WE G A X env e3 Γ (FG G A X v Q a b)
abbrev FI (v : Value) (e2 e3 : Expr) (Q : AV -> aa -> Prop) (a : AV) (Γ : aa) : Prop := WE G A X env e2 Γ (FH G A X env v e3 Q a)
variable {G A X env}
def WE.Jz (t : aX G f v) (ok : aA env names L cl) (hf : (f, .globalImplicit) ∈ names) {Γ : aa} {Q : AV -> aa -> Prop} (h : WC G A X v [] Γ Q) : WE G A X env (.Call (.Name f fp) [] [] pos) Γ Q :=
 .CX (t.at ok hf ⟨v, rfl, t.k Γ, h⟩) rfl
def WE.JA (t : aX G f v) (ok : aA env names L cl) (hf : (f, .globalImplicit) ∈ names) {e1 : Expr} {Γ : aa} {Q : AV -> aa -> Prop} (h : WE G A X env e1 Γ (Jy G A X v Q)) (n1 : autoParam (notStar e1 = true) aU) : WE G A X env (.Call (.Name f fp) [e1] [] pos) Γ Q :=
 .CY (t.at ok hf ⟨v, rfl, WE.mono h fun _ ae q => ⟨t.k ae, q⟩⟩) n1
def WE.top2 (t : aX G f v) (ok : aA env names L cl) (hf : (f, .globalImplicit) ∈ names) {e1 e2 : Expr} {Γ : aa} {Q : AV -> aa -> Prop} (h : WE G A X env e1 Γ (FF G A X env v e2 Q)) (n1 : autoParam ((notStar e1 && notStar e2) = true) aU) : WE G A X env (.Call (.Name f fp) [e1, e2] [] pos) Γ Q :=
 .call2 (t.at ok hf ⟨v, rfl, WE.mono h fun _ _ h => WE.mono h fun _ ae q => ⟨t.k ae, q⟩⟩) n1
def WE.JB (t : aX G f v) (ok : aA env names L cl) (hf : (f, .globalImplicit) ∈ names) {e1 e2 e3 : Expr} {Γ : aa} {Q : AV -> aa -> Prop} (h : WE G A X env e1 Γ (FI G A X env v e2 e3 Q)) (n1 : autoParam ((notStar e1 && (notStar e2 && notStar e3)) = true) aU) : WE G A X env (.Call (.Name f fp) [e1, e2, e3] [] pos) Γ Q :=
 .CZ (t.at ok hf ⟨v, rfl, WE.mono h fun _ _ h => WE.mono h fun _ _ h => WE.mono h fun _ ae q => ⟨t.k ae, q⟩⟩) n1
def WE.FJ (t : aX G f v) (ok : aA env names L cl) (hf : (f, .globalImplicit) ∈ names) {es : List Expr} {Γ : aa} {Q : AV -> aa -> Prop} (h : ll G A X env es Γ (kW G A X v Q)) (hp : autoParam (b7 es = true) aU) : WE G A X env (.Call (.Name f fp) es [] pos) Γ Q :=
 .call (t.at ok hf ⟨v, rfl, h.mono fun _ ae q => ⟨t.k ae, q⟩⟩) hp rfl
end
end
end
section
set_option backward.match.sparseCases false
mutual
noncomputable def AV.data : AV -> Option PyData
 | .raw .none => some .none
 | .raw (.bool b) => some (.bool b)
 | .raw _ => none
 | .int i => some (.int i)
 | .str x => some (.str x)
 | .tup xs => (AV.a7 xs).map .tuple
 | .lst xs => (AV.a7 xs).map .list
 | .ins .. => none
 | .dS .. => none
noncomputable def AV.a7 : List AV -> Option (List PyData)
 | [] => some []
 | x :: xs => match AV.data x, AV.a7 xs with
  | some d, some ds => some (d :: ds)
  | _, _ => none
end
def qO {o : Option (List PyData)} {f : List PyData -> PyData} {d : PyData} (h : o.map f = some d) : ∃ ds, o = some ds /\ f ds = d := Option.map_eq_some_iff.mp h
def n0 {x : AV} {xs : List AV} {ds : List PyData} (e : AV.a7 (x :: xs) = some ds) : ∃ d Cs, x.data = some d /\ AV.a7 xs = some Cs /\ d :: Cs = ds := by
 dsimp only [AV.a7] at e
 cases e1 : x.data with
 | none => replace e := e1 ▸ e; contradiction
 | some d =>
  cases e2 : AV.a7 xs with
  | none => replace e := e2 ▸ e1 ▸ e; contradiction
  | some Cs => rw [e1, e2] at e; exact ⟨d, Cs, rfl, rfl, Option.some.inj e⟩
def Rep.reads {V : Addr -> Prop} {h : Heap} {x : AV} {v : Value} {d : PyData} (r : Rep V h v x) (e : x.data = some d) : ∃ as, Reads h v d as := by
 refine Rep.rec (motive_1 := fun v x _ => ∀ d, x.data = some d -> ∃ as, Reads h v d as) (motive_2 := fun vs xs _ => ∀ ds, AV.a7 xs = some ds -> ∃ as, ReadsAll h vs ds as) ?_ ?_ ?_ ?_ ?_ ?_ ?_ ?_ ?_ r d e
 .intro u d e
  cases u <;> first | (obtain rfl := Option.some.inj e; exact ⟨_, .none⟩) | (obtain rfl := Option.some.inj e; exact ⟨_, .bool _⟩) | contradiction
 .intro i t d e; obtain rfl := Option.some.inj e; exact ⟨_, .int _ _⟩
 .intro i t d e; obtain rfl := Option.some.inj e; exact ⟨_, .str _ _⟩
 .intro a vs n xs ho _ _ ih d e
  obtain ⟨ds, e', rfl⟩ := qO e
  obtain ⟨as, ra⟩ := ih _ e'
  exact ⟨_, .tuple ho rfl rfl (by simpa using ra)⟩
 .intro a vs n xs ho _ _ ih d e
  obtain ⟨ds, e', rfl⟩ := qO e
  obtain ⟨as, ra⟩ := ih _ e'
  exact ⟨_, .list ho rfl rfl (by simpa using ra)⟩
 .intro a d C ns vs xs _ _ _ _ _ _ _ d e; contradiction
 .intro v p _ d e; contradiction
 .intro ds e; obtain rfl := Option.some.inj e; exact ⟨_, .nil⟩
 .intro v vs x xs _ _ h1 h2 ds e
  obtain ⟨d, Cs, e1, e2, rfl⟩ := n0 e
  obtain ⟨as, ra⟩ := h1 _ e1
  obtain ⟨bs, rb⟩ := h2 _ e2
  exact ⟨_, .cons ra rb⟩
theorem ah.reads {V : Addr -> Prop} {h : Heap} {xs : List AV} {vs : List Value} {ds : List PyData} (r : ah V h vs xs) (e : AV.a7 xs = some ds) : ∃ as, ReadsAll h vs ds as := by
 induction xs generalizing vs ds with
 | nil => apply ah.nh r; obtain rfl := Option.some.inj e; exact ⟨_, .nil⟩
 | cons x xs ih =>
  obtain ⟨d, Cs, e1, e2, rfl⟩ := n0 e
  apply ah.iK r; intro v vs ra rs
  obtain ⟨as, ra⟩ := ra.reads e1
  obtain ⟨bs, rb⟩ := ih rs e2
  exact ⟨_, .cons ra rb⟩
section
variable {env : Env} {pos : Pos} {Γ ag R : aa} {Q : AV -> aa -> Prop} {n : Nat}
def WB.eq_data {x y : AV} {d e : PyData} (hR : aj A n) (hx : x.data = some d) (hy : y.data = some e) (sx : SeqAt.shaped d = true) (sy : SeqAt.shaped e = true) (q : Q (.raw (.bool (PyData.eqv d e))) Γ) :
  WB G A X (compareOp .Eq) Rep x y Γ Q := .mk fun s v w S rv rw => by
 obtain ⟨as, ra⟩ := rv.reads hx
 obtain ⟨bs, rb⟩ := rw.reads hy
 exact eq_dataH ra rb sx sy hR.ult (.here (.raw _) S .refl q)
def WB.ne_data {x y : AV} {d e : PyData} (hR : aj A n) (hx : x.data = some d) (hy : y.data = some e) (sx : SeqAt.shaped d = true) (sy : SeqAt.shaped e = true) (q : Q (.raw (.bool (!PyData.eqv d e))) Γ) :
  WB G A X (compareOp .NotEq) Rep x y Γ Q := .mk fun s v w S rv rw => by
 obtain ⟨as, ra⟩ := rv.reads hx
 obtain ⟨bs, rb⟩ := rw.reads hy
 exact ne_dataH ra rb sx sy hR.ult (.here (.raw _) S .refl q)
theorem WB.eq_str {x y : Str} (q : Q (.raw (.bool (decide (x = y)))) Γ) : WB G A X (compareOp .Eq) Rep (.str x) (.str y) Γ Q := .mk fun s v w S rv rw => by
 cases rv.inv; cases rw.inv
 refine PySem.P.eq_str (.here (.raw _) S .refl ?_)
 have : (x.cps.toList == y.cps.toList) = decide (x = y) := by
  by_cases h : x = y
  .subst h; simp
  .have : ¬ x.cps = y.cps := fun e => h (by cases x; cases y; exact congrArg _ e)
   simp [h, this]
 rw [this]; exact q
theorem WB.ne_str {x y : Str} (q : Q (.raw (.bool (!decide (x = y)))) Γ) : WB G A X (compareOp .NotEq) Rep (.str x) (.str y) Γ Q := .mk fun s v w S rv rw => by
 cases rv.inv; cases rw.inv
 refine PySem.P.ne_str (.here (.raw _) S .refl ?_)
 have : (x.cps.toList != y.cps.toList) = !decide (x = y) := by
  by_cases h : x = y
  .subst h; simp
  .have : ¬ x.cps = y.cps := fun e => h (by cases x; cases y; exact congrArg _ e)
   simp [h, this]
 rw [this]; exact q
def WB.C0 {x : Str} (q : Q (.raw (.bool true)) Γ) : WB G A X (compareOp .Eq) Rep (.str x) (.str x) Γ Q := WB.eq_str (by rw [decide_eq_true rfl]; exact q)
def WB.C3 {x y : Str} (h : x ≠ y) (q : Q (.raw (.bool false)) Γ) : WB G A X (compareOp .Eq) Rep (.str x) (.str y) Γ Q := WB.eq_str (by rw [decide_eq_false h]; exact q)
def WB.C4 {x : Str} (q : Q (.raw (.bool false)) Γ) : WB G A X (compareOp .NotEq) Rep (.str x) (.str x) Γ Q := WB.ne_str (by rw [decide_eq_true rfl]; exact q)
def WB.C5 {x y : Str} (h : x ≠ y) (q : Q (.raw (.bool true)) Γ) : WB G A X (compareOp .NotEq) Rep (.str x) (.str y) Γ Q := WB.ne_str (by rw [decide_eq_false h]; exact q)
theorem WB.eq_int {a b : Int} (q : Q (.raw (.bool (decide (a = b)))) Γ) : WB G A X (compareOp .Eq) Rep (.int a) (.int b) Γ Q := .mk fun s v w S rv rw => by
 cases rv.inv; cases rw.inv
 exact PyProof.Rows.eq_int (.here (.raw _) S .refl q)
theorem WB.ne_int {a b : Int} (q : Q (.raw (.bool (!decide (a = b)))) Γ) : WB G A X (compareOp .NotEq) Rep (.int a) (.int b) Γ Q := .mk fun s v w S rv rw => by
 cases rv.inv; cases rw.inv
 exact PyProof.Rows.ne_int (.here (.raw _) S .refl q)
noncomputable def AV.isNone : AV -> Bool
 | .raw .none => true
 | _ => false
set_option tactic.hygienic true in
theorem Rep.isNone {V : Addr -> Prop} {h : Heap} {v : Value} {x : AV} (r : Rep V h v x) : (v == Value.none) = x.isNone := by
 cases r with
 | raw => cases v <;> rfl
 | dS q => rename_i p; obtain ⟨a, rfl⟩ := p.ref _ _ _ q; rfl
 | _ => rfl
theorem WB.is_none {x : AV} (q : Q (.raw (.bool x.isNone)) Γ) : WB G A X (compareOp .Is) Rep x (.raw .none) Γ Q := .mk fun s v w S rv rw => by
 cases rw.inv
 exact PySem.is_none (.here (.raw _) S .refl (by rw [rv.isNone]; exact q))
theorem WB.isNot_none {x : AV} (q : Q (.raw (.bool (!x.isNone))) Γ) : WB G A X (compareOp .IsNot) Rep x (.raw .none) Γ Q := .mk fun s v w S rv rw => by
 cases rw.inv
 exact PySem.isNot_none (.here (.raw _) S .refl (by rw [rv.isNone]; exact q))
noncomputable def cM (x : Str) : List AV -> Option Bool
 | [] => some false
 | .str y :: r => (cM x r).map fun b => decide (y = x) || b
 | _ :: _ => none
set_option tactic.hygienic true in
def WB.pA {x : Str} {xs : List AV} {b : Bool} (h : cM x xs = some b) (q : Q (.raw (.bool b)) Γ) : WB G A X (compareOp .In) Rep (.str x) (.tup xs) Γ Q := .mk fun s v w S rv rw => by
 have ri := rv.inv; clear rv; cases ri
 apply Rep.lJ rw; intro _ _ _ e nv rs
 rename_i t a vs k
 have key : ∀ {vs : List Value} {xs : List AV} {b : Bool}, ah (bc G Γ) s.heap vs xs -> cM x xs = some b ->
   (vs.any fun y => match y with | .str z _ => z == x | _ => false) = b /\ ∀ y ∈ vs, ∀ A, SeqAt.EqAt A s y (.str x t) (match y with | .str z _ => z == x | _ => false) := by
  intro vs
  induction vs with
  | nil => intro xs b r h; cases r; dsimp only [cM] at h; obtain rfl := Option.some.inj h; exact ⟨rfl, fun _ h => nomatch h⟩
  | cons u us ih =>
   intro xs b r h
   cases r with
   | cons r rs =>
    cases r with
    | str z tk =>
     (dsimp only [cM] at h; simp only [Option.map_eq_some_iff] at h)
     obtain ⟨c, hc, rfl⟩ := h
     obtain ⟨i1, i2⟩ := ih rs hc
     refine ⟨?_, fun y hy A => ?_⟩
     .rw [List.any_cons, i1]
      by_cases hz : z = x
      .subst hz; rfl
      .rfl
     .rcases List.mem_cons.mp hy with rfl | hy
      .exact SeqAt.EqAt.str_str z tk x t
      .exact i2 y hy A
    | _ => (dsimp only [cM] at h; simp at h)
 obtain ⟨k1, k2⟩ := key rs h
 refine SeqAt.in_tupleAt (items := vs.toArray) _ ⟨_, e, rfl, k, rfl⟩ (fun y hy => k2 y (by simpa using hy) _) ?_
 refine .here (.raw _) S .refl ?_
 rw [show vs.toArray.any _ = b from by simpa using k1]
 exact q
end
section
variable {env : Env} {pos : Pos} {Γ ag R : aa} {Q : AV -> aa -> Prop} {n : Nat}
def WB.Ct {x : Str} {xs : List AV} (h : cM x xs = some true) (q : Q (.raw (.bool true)) Γ) : WB G A X (compareOp .In) Rep (.str x) (.tup xs) Γ Q := WB.pA h q
def WB.Cu {x : Str} {xs : List AV} (h : cM x xs = some false) (q : Q (.raw (.bool false)) Γ) : WB G A X (compareOp .In) Rep (.str x) (.tup xs) Γ Q := WB.pA h q
theorem WB.add_str {x y : Str} (hz : x.length + y.length <= sizeLine) (q : Q (.str (x ++ y)) Γ) : WB G A X (binaryOp .Add) Rep (.str x) (.str y) Γ Q := .mk fun s v w S rv rw => by
 apply Rep.qN rv; intro t; apply Rep.qN rw; intro t
 refine PyProof.Rows.add_str (fun t' tk => ?_) hz
 exact .here (.str _ _) (S.toks _) (by exact (S.same (s' := { s with toks := tk }) rfl rfl rfl).2) q
def WB.add_int {a b : Int} (q : Q (.int (a + b)) Γ) : WB G A X (binaryOp .Add) Rep (.int a) (.int b) Γ Q := .mk fun s v w S rv rw => by
 cases rv.inv; apply Rep.dZ rw; intro t
 exact wpAny_add_int (.here (.int _ _) (S.toks _) (by exact (S.same (s' := { s with toks := s.toks + 1 }) rfl rfl rfl).2) q)
end
def Lay.wC {names : List (Str × NameKind)} {ps : List (Str × AV)} {m cs : List (Str × Option AV)} (l : Lay names ps m cs) (nd : (names.map (·.1)).Nodup) : (cs.map (·.1)).Nodup := by
 induction l with
 | nil => exact .nil
 | kD l ih =>
  have dg := List.nodup_cons.mp nd
  refine List.nodup_cons.mpr ⟨fun q => ?_, ih dg.2⟩
  obtain ⟨⟨x, o⟩, h, e⟩ := List.mem_map.mp q
  subst e
  exact dg.1 (List.mem_map.mpr ⟨_, (l.lL _ _ h).1, rfl⟩)
 | cell l ih =>
  have dg := List.nodup_cons.mp nd
  refine List.nodup_cons.mpr ⟨fun q => ?_, ih dg.2⟩
  obtain ⟨⟨x, o⟩, h, e⟩ := List.mem_map.mp q
  cases e
  exact dg.1 (List.mem_map.mpr ⟨_, (l.lL _ _ h).1, rfl⟩)
 | gN l ih => exact ih (List.nodup_cons.mp nd).2
 | «local» l ih => exact ih (List.nodup_cons.mp nd).2
 | other _ _ l ih => exact ih (List.nodup_cons.mp nd).2
theorem kE : ∀ (cs : List (Str × Option AV)) (n : Nat), bD n cs = (cs.map (·.1)).zip (List.range' n cs.length)
 | [], n => rfl
 | (x, o) :: r, n => by
  show (x, n) :: bD (n + 1) r = _
  rw [kE r]; rfl
def Lay.gO {names : List (Str × NameKind)} {ps : List (Str × AV)} {m cs : List (Str × Option AV)} (l : Lay names ps m cs) (nd : (names.map (·.1)).Nodup) {n : Nat} {x : Str} {c : Addr}
  (h : (x, c) ∈ bD n cs) : (cellsFrom n names []).lookup x = some c := by
 refine lookup_mem ?_ ?_
 .rw [l.cells, List.append_nil, List.map_reverse, List.map_fst_zip (by simp), (List.reverse_perm _).nodup_iff]
  exact l.wC nd
 .rw [l.cells, List.append_nil, List.mem_reverse, <- kE]; exact h
noncomputable def uZ (n : Nat) : (List Value -> Prop) -> Prop := Nat.rec (fun P => P []) (fun _ ih P => ∀ v, ih fun r => P (v :: r)) n
theorem uZ.go {vs : List Value} : ∀ {P : List Value -> Prop} {n : Nat}, uZ n P -> vs.length = n -> P vs := by
 induction vs with
 | nil => intro P n h e; subst e; exact h
 | cons v r ih => intro P n h e; subst e; exact ih (h v) rfl
def ew {names : List (Str × NameKind)} (h : bz names = true) : (names.map (·.1)).Nodup /\ ∀ p ∈ names, (p.1 == ("__debug__" : Str)) = false /\ (p.1 == ("__classdict__" : Str)) = false := by
 unfold bz at h
 simp only [Bool.and_eq_true, decide_eq_true_eq, List.all_eq_true, Bool.not_eq_true'] at h
 exact h
section
variable {Γ ag R : aa}
def WF.def {f : Addr} {oc : Value} {od : Option Addr} {ng : Array (Option Value)} {name qual : Str} {params : Arguments} {body : List Stmt} {scope : Scope} {dV kV doc pm cV ct : Value} {an : Option Addr} {xs ys : List AV} {ds : List Value}
  {m cs : List (Str × Option AV)} {ns : List Str} {n : Nat} {Q : AV -> aa -> Prop}
  (hK : G.K.lookup f = some ⟨oc, od, .func (fnOf name qual params body scope dV kV doc pm an cV ct), ng⟩) (gG : codeIn G.K cV qual = true) (hR : aj A (n + 1))
  (hb : ∀ s, aM G Γ s -> uZ xs.length fun vs => BindsTo s (fnOf name qual params body scope dV kV doc pm an cV ct) ⟨vs, []⟩ (ns.zip (vs ++ ds)))
  (wa : ∀ s, aM G Γ s -> ah (bc G Γ) s.heap ds ys) (hlen : ns.length = (xs ++ ys).length)
  (hs : bz scope.names = true) (l : Lay scope.names (ns.zip (xs ++ ys)) m cs)
  (h : ∀ L env A' X', aA env scope.names L (bD (L + 1) cs) -> aj A' n -> WS G A' X' env body (aE (L + 1) cs ++ (L, .ns m) :: Γ) fun fl ae => Fin G Q (iH fl) ae)
  (iS : autoParam (scope.isCoroutine = false) aR) (cW : autoParam (scope.isGenerator = false) aR) (hk : autoParam (scope.kind = .function) aR) : WF G A X (.ref f) xs Γ Q :=
 have ⟨nd, nb⟩ := ew hs
 WF.fn hK gG hR (fun s vs S hl => (hb s S).go hl) wa hlen nd l (fun L R' => h L _ _ _ ⟨rfl, hk, nd, nb, rfl, rfl, rfl, fun x c hc => l.gO nd hc⟩ R') iS cW hk
theorem WC.def {f : Addr} {oc : Value} {od : Option Addr} {ng : Array (Option Value)} {name qual : Str} {params : Arguments} {body : List Stmt} {scope : Scope} {dV kV doc pm cV ct : Value} {an : Option Addr} {xs ys : List AV} {ds : List Value}
  {m cs : List (Str × Option AV)} {ns : List Str} {n : Nat} {Q : AV -> aa -> Prop}
  (hK : G.K.lookup f = some ⟨oc, od, .func (fnOf name qual params body scope dV kV doc pm an cV ct), ng⟩) (gG : codeIn G.K cV qual = true) (hR : aj A (n + 1))
  (hb : ∀ s, aM G Γ s -> uZ xs.length fun vs => BindsTo s (fnOf name qual params body scope dV kV doc pm an cV ct) ⟨vs, []⟩ (ns.zip (vs ++ ds)))
  (wa : ∀ s, aM G Γ s -> ah (bc G Γ) s.heap ds ys) (hlen : ns.length = (xs ++ ys).length)
  (hs : bz scope.names = true) (l : Lay scope.names (ns.zip (xs ++ ys)) m cs)
  (h : ∀ L env A' X', aA env scope.names L (bD (L + 1) cs) -> aj A' n -> WS G A' X' env body (aE (L + 1) cs ++ (L, .ns m) :: Γ) fun fl ae => Fin G Q (iH fl) ae)
  (iS : autoParam (scope.isCoroutine = false) aR) (cW : autoParam (scope.isGenerator = false) aR) (hk : autoParam (scope.kind = .function) aR) : WC G A X (.ref f) xs Γ Q := .jh (WF.def hK gG hR hb wa hlen hs l h iS cW hk)
end
end
section
noncomputable abbrev aY (wr : List Addr) (os : List Obj) : aa := wr.zip (os.map bG.obj)
structure fk (G : Base) (A : Around) (target : Expr) (I : Addr) (wr : List Addr) (xs : List AV) (St : Nat -> (Addr -> Prop) -> Heap -> Prop) : Prop where
 keep : ∀ i V V' h h', St i V h -> fK V V' h h' -> (∀ b ∈ wr, ∀ o, h.get? b = some o -> h'.get? b = some o) -> St i V' h'
 obj : ∀ i V h, St i V h -> ∀ b ∈ wr, ∃ o, h.get? b = some o
 item : ∀ i x (s : Shared) (V : Addr -> Prop) (X : Value -> Shared -> Prop) (P : Option Value -> Shared -> Prop), xs[i]? = some x -> (∀ b ∈ wr, V b) -> (∀ b, V b -> ∃ o, s.heap.get? b = some o) -> St i V s.heap ->
  (∀ v h' tk, (∀ b o, b ∉ wr -> s.heap.get? b = some o -> h'.get? b = some o) ->
   (∀ (Xg : Value -> Shared -> Prop) (Pg : Unit -> Shared -> Prop), (∀ iD wD, (∀ b o, b ∉ wr -> s.heap.get? b = some o -> iD.get? b = some o) -> Rep V iD v x -> St (i + 1) V iD -> Pg () { s with heap := iD, toks := wD }) ->
    wpAny G.M A (letOwnedTupleGo target (.ref I) v) Pg Xg { s with heap := h', toks := tk }) -> P (some v) { s with heap := h', toks := tk }) -> wpAny G.M A (pyNext (.ref I)) P X s
 done : ∀ (s : Shared) (V : Addr -> Prop) (X : Value -> Shared -> Prop) (P : Option Value -> Shared -> Prop), St xs.length V s.heap ->
  (∀ h' tk, (∀ b o, b ∉ wr -> s.heap.get? b = some o -> h'.get? b = some o) -> P none { s with heap := h', toks := tk }) -> wpAny G.M A (pyNext (.ref I)) P X s
 self : ∀ i (s : Shared) (V : Addr -> Prop) (X : Value -> Shared -> Prop) (P : Value -> Shared -> Prop), St i V s.heap -> P (.ref I) s -> wpAny G.M A (pyIter (.ref I)) P X s
def cw {wr : List Addr} {os : List Obj} (h : os.length = wr.length) : keys (aY wr os) = wr := List.map_fst_zip (by simp [h])
def lP {wr : List Addr} {os : List Obj} (h : os.length = wr.length) (b : Addr) (hb : b ∈ wr) : ∃ o, (b, bG.obj o) ∈ aY wr os := by
 induction wr generalizing os with
 | nil => contradiction
 | cons c wr ih =>
  cases os with
  | nil => contradiction
  | cons o os =>
   rcases List.mem_cons.mp hb with rfl | hb
   .exact ⟨o, .head _⟩
   .obtain ⟨o', q⟩ := ih (os := os) (by simpa using h) hb
    exact ⟨o', .tail _ q⟩
def lQ (h : Heap) (wr : List Addr) (H : ∀ b ∈ wr, ∃ o, h.get? b = some o) : ∃ os : List Obj, os.length = wr.length /\ ∀ p ∈ aY wr os, ∃ o, p.2 = .obj o /\ h.get? p.1 = some o := by
 induction wr with
 | nil => exact ⟨[], rfl, fun p hp => nomatch hp⟩
 | cons b wr ih =>
  obtain ⟨o, e⟩ := H b (.head _)
  obtain ⟨os, h1, h2⟩ := ih fun c hc => H c (.tail _ hc)
  refine ⟨o :: os, by simp [h1], fun p hp => ?_⟩
  rcases List.mem_cons.mp hp with rfl | hp
  .exact ⟨o, rfl, e⟩
  .exact h2 p hp
section
variable {env : Env} {Γ ag R : aa} {s s' : Shared} {wr : List Addr} {os ie : List Obj}
def aM.rewrite (S : aM G (aY wr os ++ Γ) s) (hl : os.length = wr.length) (jc : ie.length = wr.length) (ho : ∀ p ∈ aY wr ie, ∃ o, p.2 = .obj o /\ s'.heap.get? p.1 = some o)
  (hk : ∀ b o, b ∉ wr -> s.heap.get? b = some o -> s'.heap.get? b = some o) (hg : s'.gens = s.gens) (eK : s'.os = s.os) : aM G (aY wr ie ++ Γ) s' /\ Step G (aY wr os ++ Γ) s.heap (aY wr ie ++ Γ) s'.heap := by
 have dW : keys (aY wr ie ++ Γ) = keys (aY wr os ++ Γ) := by
  unfold keys; rw [List.map_append, List.map_append]
  have a := cw hl; have b := cw jc
  unfold keys at a b; rw [a, b]
 have nd := S.nodup
 rw [<- dW] at nd
 have FK := nd
 unfold keys at FK
 rw [List.map_append] at FK
 have Bm := (List.nodup_append.mp FK).2.2
 refine S.go (fun b => b ∈ wr) (fun b hb => .inl ?_) (fun b o e nb => hk b o nb e) (fun p hp => ?_) (fun k p hp hC => ?_) nd hg eK
 .rw [<- dW]; unfold keys; rw [List.map_append]
  refine List.mem_append_left _ ?_
  have := cw jc; unfold keys at this; rw [this]; exact hb
 .rcases List.mem_append.mp hp with hp | hp
  .refine .inr ?_
   have := List.mem_map_of_mem (f := Prod.fst) hp
   have q := cw jc; unfold keys at q; rw [q] at this; exact this
  .exact .inl (List.mem_append_right _ hp)
 .rcases List.mem_append.mp hp with hp | hp
  .k_dflt obtain ⟨o, e1, e2⟩ := ho p hp
   refine e1 ▸ ?_; exact e2
  .exfalso
   refine Bm p.1 ?_ p.1 (List.mem_map_of_mem hp) rfl
   have q := cw jc; unfold keys at q; rw [q]; exact hC
def aM.wF (S : aM G (aY wr os ++ Γ) s) (hl : os.length = wr.length) (hk : ∀ b o, b ∉ wr -> s.heap.get? b = some o -> s'.heap.get? b = some o) (hg : s'.gens = s.gens) (eK : s'.os = s.os) :
  aM G Γ s' /\ Step G (aY wr os ++ Γ) s.heap Γ s'.heap := by
 have nd := S.nodup
 unfold keys at nd
 rw [List.map_append] at nd
 have q := cw hl
 unfold keys at q
 replace nd := q ▸ nd
 have Bm := (List.nodup_append.mp nd).2.2
 refine S.go (fun b => b ∈ wr) (fun b hb => .inl ?_) (fun b o e nb => hk b o nb e) (fun p hp => .inl (List.mem_append_right _ hp)) (fun k p hp hC => absurd rfl (Bm p.1 hC p.1 (List.mem_map_of_mem hp))) (List.nodup_append.mp nd).2.1 hg eK
 unfold keys; rw [List.map_append, q]
 exact List.mem_append_left _ hb
def drop_cons {α : Type} {xs rest : List α} {i : Nat} {x : α} (h : xs.drop i = x :: rest) : xs[i]? = some x /\ xs.drop (i + 1) = rest /\ i + 1 <= xs.length := by
 have hx : xs[i]? = some x := by
  have := congrArg (·[0]?) h
  simpa using this
 refine ⟨hx, ?_, (List.getElem?_eq_some_iff.mp hx).1⟩
 have := congrArg (List.drop 1) h
 simpa [List.drop_drop] using this
def jX {F : aa} (hl : os.length = wr.length) : keys (aY wr os ++ F) = wr ++ keys F := by
 have := cw hl
 unfold keys at this ⊢
 rw [List.map_append, this]
def qP {F : aa} {b : Addr} (hl : os.length = wr.length) (hb : b ∈ wr) : bc G (aY wr os ++ F) b := .inr (by rw [jX hl]; exact List.mem_append_left _ hb)
def n3 {F : aa} {ie : List Obj} (hl : os.length = wr.length) (jc : ie.length = wr.length) : bc G (aY wr os ++ F) = bc G (aY wr ie ++ F) := by
 funext b
 unfold bc
 rw [jX hl, jX jc]
def TurnEnd (it : aa) (Inv : List AV -> aa -> Prop) (rest : List AV) (Q : aN -> aa -> Prop) (fl : aN) (fH : aa) : Prop := match fl with
 | .next => ∃ cy, ao fH (it ++ cy) /\ Inv rest cy
 | .cont => ∃ cy, ao fH (it ++ cy) /\ Inv rest cy
 | .brk => ∃ cy, ao fH cy /\ Q .next cy
 | .ret v => ∃ cy, ao fH cy /\ Q (.ret v) cy
def lR {target : Expr} {I : Addr} {xs : List AV} {St : Nat -> (Addr -> Prop) -> Heap -> Prop} (P : fk G A target I wr xs St) {i : Nat} {fJ fH : aa} (hl : os.length = wr.length)
  (S : aM G (aY wr os ++ fJ) s) (S' : aM G (aY wr os ++ fH) s') (T : Step G (aY wr os ++ fJ) s.heap (aY wr os ++ fH) s'.heap) (h : St i (bc G (aY wr os ++ fJ)) s.heap) : St i (bc G (aY wr os ++ fH)) s'.heap :=
 P.keep i _ _ _ _ h T.az fun b hb o e => by
  obtain ⟨o', q⟩ := lP hl b hb
  have e1 : s.heap.get? b = some o' := S.own _ (List.mem_append_left _ q)
  have e2 : s'.heap.get? b = some o' := S'.own _ (List.mem_append_left _ q)
  replace e := e1 ▸ e; obtain rfl := Option.some.inj e; exact e2
def qQ {target : Expr} {body : List Stmt} {I : Addr} {xs : List AV} {St : Nat -> (Addr -> Prop) -> Heap -> Prop} (P : fk G A target I wr xs St) {Q : aN -> aa -> Prop} (Inv : List AV -> aa -> Prop)
  (turn : ∀ x rest ae os, os.length = wr.length -> Inv (x :: rest) ae -> WA G A (notedBy G.M A env X) env target x (aY wr os ++ ae) fun fJ => WS G A (notedBy G.M A env X) env body fJ (TurnEnd (aY wr os) Inv rest Q))
  (fin : ∀ ae, Inv [] ae -> Q .next ae) : ∀ (rest : List AV) (i : Nat) (ae cY : aa) (h₀ : Heap) (s : Shared) (os : List Obj), xs.drop i = rest -> i <= xs.length -> os.length = wr.length -> aM G (aY wr os ++ ae) s -> St i (bc G (aY wr os ++ ae)) s.heap -> Inv rest ae ->
   Step G cY h₀ (aY wr os ++ ae) s.heap -> codeAny G.M A (.forLoop target (.ref I) body [] env) (fun r s' => match r with | .ok f => gv G cY h₀ jW Q f s' | .error e => X e s') s := by
 intro rest
 induction rest with
 | nil =>
  intro i ae cY h₀ s os hd hi hl S st hI T
  refine codeAny_of_tree ?_
  show wpAny _ A ((forTurn target (.ref I) body [] env).onRaise (fun x => do noteFrame x env; theTreesLotGoes x)) _ _ s
  refine wpAny_noted ?_
  unfold forTurn
  refine wpAny_bind (wpAny_standAt (wpAny_bind (wpAny_onRaise ?_)))
  have hlen : i = xs.length := Nat.le_antisymm hi (List.drop_eq_nil_iff.mp hd)
  subst hlen
  refine P.done s _ _ _ st fun h' tk hk => ?_
  refine wpAny_pure (And.intro rfl (codeAny_block (wpAny_execs_nil ?_)))
  have z := S.wF (s' := { s with heap := h', toks := tk }) hl hk rfl rfl
  exact ⟨.next, ae, .next, z.1, T.trans z.2, fin _ hI⟩
 | cons x rest ih =>
  intro i ae cY h₀ s os hd hi hl S st hI T
  refine codeAny_of_tree ?_
  show wpAny _ A ((forTurn target (.ref I) body [] env).onRaise (fun x => do noteFrame x env; theTreesLotGoes x)) _ _ s
  refine wpAny_noted ?_
  unfold forTurn
  refine wpAny_bind (wpAny_standAt (wpAny_bind (wpAny_onRaise ?_)))
  obtain ⟨hx, u7, FL⟩ := drop_cons hd
  have hV := fun b hb => qP (G := G) (F := ae) hl (b := b) hb
  refine P.item i x s _ _ _ hx hV (fun b hb => S.there hb) st fun v h' tk hk Bn => ?_
  refine wpAny_bind (Bn _ _ fun iD wD C6 rv sT => ?_)
  k_dflt obtain ⟨ie, jc, ho⟩ := lQ iD wr fun b hb => P.obj _ _ _ sT b hb
  have z := S.rewrite (s' := { s with heap := iD, toks := wD }) hl jc ho C6 rfl rfl
  have qR := n3 (G := G) (F := ae) jc hl
  have C7 : Rep (bc G (aY wr ie ++ ae)) iD v x := by rw [qR]; exact rv
  have Bo : St (i + 1) (bc G (aY wr ie ++ ae)) iD := by rw [qR]; exact sT
  refine wpAny_bind (((turn x rest ae ie jc hI).go _ v z.1 C7).seq fun _ _ fJ ay _ ax aG hb => ?_)
  refine wpAny_bind ((hb.go ay ax).seq fun fl af fH aW rf bp bx q => ?_)
  have wG : (∃ cy, ao fH (aY wr ie ++ cy) /\ Inv rest cy) -> codeAny G.M A (.forLoop target (.ref I) body [] env) (fun r s' => match r with | .ok f => gv G cY h₀ jW Q f s' | .error e => X e s') aW := fun zz => by
   k_dflt obtain ⟨cy, w, qK⟩ := zz
   have iE := w.sim bp
   have jf : Step G (aY wr ie ++ ae) iD (aY wr ie ++ cy) aW.heap := (aG.trans bx).trans w.step
   exact ih (i + 1) cy cY h₀ aW ie u7 FL jc iE (lR P jc z.1 iE jf Bo) qK ((T.trans z.2).trans jf)
  induction rf with
  | next => exact wpAny_pure (And.intro rfl (wG q))
  | cont => exact wpAny_pure (And.intro rfl (wG q))
  | brk =>
   obtain ⟨cy, w, q⟩ := q
   exact wpAny_pure ⟨.next, cy, .next, w.sim bp, (((T.trans z.2).trans aG).trans bx).trans w.step, q⟩
  | ret r =>
   k_dflt obtain ⟨cy, w, q⟩ := q
   exact wpAny_pure ⟨.ret _, cy, .ret (r.weak w), w.sim bp, (((T.trans z.2).trans aG).trans bx).trans w.step, q⟩
end
section
variable {env : Env} {pos : Pos} {Γ ag R : aa} {s s' : Shared} {n : Nat}
def qS (target : Expr) (it v : Value) : letOwnedTupleGo target it v = pure () \/ letOwnedTupleGo target it v = letOwnedTupleGo (.Tuple [] 0 ⟨0, 0, 0, 0⟩) it v := by
 cases target <;> first | exact .inl rfl | exact .inr rfl
def n4 {target : Expr} {I : Addr} {T : String} {b : Addr} {i : Nat} {v : Value} {P : Unit -> Shared -> Prop} (ht : T = "list_iterator" \/ T = "tuple_iterator") (h : ∃ o, s.heap.get? I = some o /\ o.cls = .type T /\ o.data = .fields #[.ref b, .int i 0])
  (q : P () s) : wpAny G.M A (letOwnedTupleGo target (.ref I) v) P X s := by
 k_dflt obtain ⟨o, ho, hc, hd⟩ := h
 have nn : (["enumerate", "zip", "dict_itemiterator", "dict_reverseitemiterator", "odict_iterator", "itertools.zip_longest", "itertools.pairwise"].contains T) = false := by rcases ht with rfl | rfl <;> decide
 have go : ∀ a, wpAny G.M A (do
   let o <- load I
   match o.cls, o.data with
   | .type n, .fields vs =>
    if ["enumerate", "zip", "dict_itemiterator", "dict_reverseitemiterator", "odict_iterator", "itertools.zip_longest", "itertools.pairwise"].contains n && vs[0]? == some (rawInt a) then
     rule "for.unpacks-the-owned-tuple"
     updateField I 0 .none
   | _, _ => pure () : Sem Unit) P X s := fun a => by
  refine wpAny_bind (wpAny_load ho ?_)
  refine hc ▸ hd ▸ ?_
  show wpAny _ A (if (_ && _) = true then _ else _) P X s
  rw [nn, Bool.false_and, if_neg Bool.false_ne_true]
  exact wpAny_pure q
 rcases qS target (.ref I) v with e | e
 .rw [e]; exact wpAny_pure q
 .rw [e]; induction v <;> first | exact go _ | exact wpAny_pure q
def fk.lst (hR : aj A n) {target : Expr} {I b : Addr} (iG : b ≠ I) {vs : List Value} {m : Nat} {xs : List AV} (hlen : vs.length = xs.length) :
  fk G A target I [I] xs (fun i V h => h.IsListIter I b i /\ h.get? b = some (bW vs m) /\ ¬ V b /\ ah V h vs xs) where
 keep := fun i V V' h h' ⟨a, e, nv, r⟩ k kw => ⟨(by obtain ⟨o, ho, q⟩ := a; exact ⟨o, kw I (.head _) o ho, q⟩), (k _ _ e nv).1, (k _ _ e nv).2, r.keep k⟩
 obj := fun i V h ⟨⟨o, ho, _⟩, _⟩ b hb => by cases hb with | head => exact ⟨o, ho⟩ | tail _ h => cases h
 item := fun i x s V X P hx hw ha ⟨a, e, nv, r⟩ hQ => by
  obtain ⟨v, hv, rv⟩ := r.get hx
  refine wpAny_pyNext_list_item a (IsList.of e) (x := v) (by simpa using hv) fun h' a' hs => ?_
  have k : fK V V s.heap h' := fun c o q nq => ⟨(hs.2 c fun z => nq (z ▸ hw I (.head _))).trans q, nq⟩
  refine hQ v h' s.toks (fun c o nc q => (hs.2 c fun z => nc (z ▸ .head _)).trans q) fun Xg Pg hP => ?_
  exact n4 (.inl rfl) a' (hP h' s.toks (fun c o nc q => (hs.2 c fun z => nc (z ▸ .head _)).trans q) (rv.keep k) ⟨a', (k _ _ e nv).1, nv, r.keep k⟩)
 done := fun s V X P ⟨a, e, nv, r⟩ hQ => wpAny_pyNext_list_end hR.handled a (IsList.of e) (by simp [hlen]) fun h' he => hQ h' s.toks fun c o nc q => he c o (fun z => nc (z ▸ .head _)) q
 self := fun i s V X P ⟨a, e, nv, r⟩ q => wpAny_pyIter_listiter a q
def fk.tup (hR : aj A n) {target : Expr} {I b : Addr} (iG : b ≠ I) {vs : List Value} {m : Nat} {xs : List AV} (hlen : vs.length = xs.length) :
  fk G A target I [I] xs (fun i V h => h.IsTupleIter I b i /\ h.get? b = some (cj vs m) /\ ¬ V b /\ ah V h vs xs) where
 keep := fun i V V' h h' ⟨a, e, nv, r⟩ k kw => ⟨(by obtain ⟨o, ho, q⟩ := a; exact ⟨o, kw I (.head _) o ho, q⟩), (k _ _ e nv).1, (k _ _ e nv).2, r.keep k⟩
 obj := fun i V h ⟨⟨o, ho, _⟩, _⟩ b hb => by cases hb with | head => exact ⟨o, ho⟩ | tail _ h => cases h
 item := fun i x s V X P hx hw ha ⟨a, e, nv, r⟩ hQ => by
  obtain ⟨v, hv, rv⟩ := r.get hx
  refine wpAny_pyNext_tuple_item a (IsTup.of e) (x := v) (by simpa using hv) fun h' a' hs => ?_
  have k : fK V V s.heap h' := fun c o q nq => ⟨(hs.2 c fun z => nq (z ▸ hw I (.head _))).trans q, nq⟩
  refine hQ v h' s.toks (fun c o nc q => (hs.2 c fun z => nc (z ▸ .head _)).trans q) fun Xg Pg hP => ?_
  exact n4 (.inr rfl) a' (hP h' s.toks (fun c o nc q => (hs.2 c fun z => nc (z ▸ .head _)).trans q) (rv.keep k) ⟨a', (k _ _ e nv).1, nv, r.keep k⟩)
 done := fun s V X P ⟨a, e, nv, r⟩ hQ => wpAny_pyNext_tuple_end hR.handled a (IsTup.of e) (by simp [hlen]) fun h' he => hQ h' s.toks fun c o nc q => he c o (fun z => nc (z ▸ .head _)) q
 self := fun i s V X P ⟨a, e, nv, r⟩ q => wpAny_pyIter_tupleiter a q
noncomputable def cZ : AV -> Option (List AV)
 | .tup xs => some xs
 | .lst xs => some xs
 | _ => none
def Bp {C : AV -> Prop} {x : AV} {xs : List AV} (h : cZ x = some xs) (l : C (.lst xs)) (k : C (.tup xs)) : C x := by
 cases x with
 | lst ys => exact Option.some.inj h ▸ l
 | tup ys => exact Option.some.inj h ▸ k
 | _ => cases h
def wH (hR : aj A n) {v : Value} {x : AV} {xs : List AV} (hx : cZ x = some xs) (S : aM G Γ s) (r : Rep (bc G Γ) s.heap v x) {P : Value -> Shared -> Prop}
  (h : ∀ I St s' o, (∀ target, fk G A target I [I] xs St) -> aM G (aY [I] [o] ++ Γ) s' -> Step G Γ s.heap (aY [I] [o] ++ Γ) s'.heap -> St 0 (bc G (aY [I] [o] ++ Γ)) s'.heap -> P (.ref I) s') : wpAny G.M A (pyIter v) P X s := by
 revert r; apply Bp hx
 .intro r; apply Rep.uX r; intro b vs m e nv rs
  refine wpAny_pyIter_list (IsList.of e) ?_
  have z := S.alloc (s' := { s with heap := s.heap.push { cls := .type "list_iterator", data := .fields #[.ref b, .int 0 0] } }) (o' := .obj { cls := .type "list_iterator", data := .fields #[.ref b, .int 0 0] }) rfl rfl rfl fun k => Heap.get?_push_size _ rfl
  have k := z.2.az
  exact h _ _ _ _ (fun target => fk.lst hR (b := b) (Nat.ne_of_lt (Heap.lt_size e)) (m := m) rs.length) z.1 z.2 ⟨⟨_, Heap.get?_push_size _ rfl, rfl, rfl⟩, (k _ _ e nv).1, (k _ _ e nv).2, rs.keep k⟩
 .intro r; apply Rep.lJ r; intro b vs m e nv rs
  refine wpAny_pyIter_tuple (IsTup.of e) ?_
  have z := S.alloc (s' := { s with heap := s.heap.push { cls := .type "tuple_iterator", data := .fields #[.ref b, .int 0 0] } }) (o' := .obj { cls := .type "tuple_iterator", data := .fields #[.ref b, .int 0 0] }) rfl rfl rfl fun k => Heap.get?_push_size _ rfl
  have k := z.2.az
  exact h _ _ _ _ (fun target => fk.tup hR (b := b) (Nat.ne_of_lt (Heap.lt_size e)) (m := m) rs.length) z.1 z.2 ⟨⟨_, Heap.get?_push_size _ rfl, rfl, rfl⟩, (k _ _ e nv).1, (k _ _ e nv).2, rs.keep k⟩
end
end
section
noncomputable def Each : Nat -> (aa -> Prop) -> Prop
 | 0, F => F []
 | k + 1, F => ∀ a o, Each k fun r => F ((a, .obj o) :: r)
theorem Each.go : ∀ {k : Nat} {F : aa -> Prop}, Each k F -> ∀ (wr : List Addr) (os : List Obj), wr.length = k -> os.length = wr.length -> F (aY wr os)
 | 0, F, h, [], [], _, _ => h
 | k + 1, F, h, a :: wr, o :: os, hw, ho => Each.go (h a o) wr os (by simpa using hw) (by simpa using ho)
 | 0, _, _, _ :: _, _, hw, _ => by contradiction
 | _ + 1, _, _, [], _, hw, _ => by contradiction
 | _ + 1, _, _, _ :: _, [], _, ho => by contradiction
 | 0, _, _, [], _ :: _, _, ho => by contradiction
theorem aC.app {a : Addr} {o : bG} {R : aa} : ∀ {P : aa}, aC a o (P ++ (a, o) :: R) (P ++ R)
 | [] => .here
 | _ :: _ => .there aC.app
section
variable {env aF : Env} {pos : Pos} {names aB : List (Str × NameKind)} {cl cN : List (Str × Addr)} {Γ ag ai R : aa} {s s' : Shared} {n : Nat} {L C D : Addr}
def au (G : Base) (A : Around) (target : Expr) (k : Nat) (iv : AV) (ag : aa) (xs : List AV) (ai : aa) : Prop :=
 ∀ (s : Shared) (v : Value) (X : Value -> Shared -> Prop) (P : Value -> Shared -> Prop), aM G ag s -> Rep (bc G ag) s.heap v iv ->
  (∀ I wr os St s', wr.length = k -> os.length = wr.length -> fk G A target I wr xs St -> aM G (aY wr os ++ ai) s' -> Step G ag s.heap (aY wr os ++ ai) s'.heap -> St 0 (bc G (aY wr os ++ ai)) s'.heap -> P (.ref I) s') ->
  wpAny G.M A (pyIter v) P X s
def au.seq (hR : aj A n) {target : Expr} {x : AV} {xs : List AV} (hx : cZ x = some xs) : au G A target 1 x ag xs ag := fun s v X P S r h =>
 wH hR hx S r fun I St s' o hP S' T' st => h I [I] [o] St s' rfl rfl (hP target) S' T' st
inductive wI (G : Base) (A : Around) (target : Expr) (k : Nat) (Inv : List AV -> aa -> Prop) (iv : AV) (ag : aa) : Prop
 | mk {xs : List AV} {ai : aa} (w : au G A target k iv ag xs ai) (i : Inv xs ai)
inductive C8 (G : Base) (A : Around) (target : Expr) (k : Nat) {α : Type} (ts : List α) (f : α -> AV) (Inv : List α -> List α -> aa -> Prop) (iv : AV) (ag : aa) : Prop
 | mk {ai : aa} (w : au G A target k iv ag (ts.map f) ai) (i : Inv [] ts ai)
inductive pB (G : Base) (A : Around) (target : Expr) (k : Nat) (Inv : List AV -> List AV -> aa -> Prop) (iv : AV) (ag : aa) : Prop
 | mk {xs : List AV} {ai : aa} (w : au G A target k iv ag xs ai) (z : xs.length <= sizeLine) (i : Inv [] xs ai)
def W1.for (k : Nat) {target iter : Expr} {body : List Stmt} {Q : aN -> aa -> Prop} (Inv : List AV -> aa -> Prop)
  (h : WE G A X env iter Γ (wI G A target k Inv))
  (turn : ∀ X' x rest ae, Inv (x :: rest) ae -> Each k fun it => WA G A X' env target x (it ++ ae) fun fJ => WS G A X' env body fJ (TurnEnd it Inv rest Q))
  (fin : ∀ ae, Inv [] ae -> Q .next ae)
  (hs : autoParam (∀ x, foldedSetIterable iter env x = pure x) aJ) : W1 G A X env (.For target iter body [] pos) Γ Q := .mk fun s S => by
 refine wpAny_For ((h.go s S).seq fun v iv ag ay r ax aG hh => ?_) hs
 cases hh with | @mk xs ai hw hI => ?_
 refine hw ay v _ _ ax r fun I wr os St s' hk hl hP S' T' st => ?_
 exact qQ hP Inv (fun x rest ae ie jc qK => (turn _ x rest ae qK).go wr ie hk jc) fin xs 0 ai Γ s.heap s' os rfl (Nat.zero_le _) hl S' st hI (aG.trans T')
def Each.imp {F F' : aa -> Prop} (h : ∀ Γ, F Γ -> F' Γ) {k : Nat} (q : Each k F) : Each k F' := by
 induction k generalizing F F' with
 | zero => exact h _ q
 | succ k ih => exact fun a o => ih (fun Γ => h ((a, .obj o) :: Γ)) (q a o)
theorem WS.turn {it : aa} {Inv C9 : List AV -> aa -> Prop} {rest : List AV} {Q : aN -> aa -> Prop} {body : List Stmt} (h : ∀ Γ, Inv rest Γ -> C9 rest Γ) (w : WS G A X env body Γ (TurnEnd it Inv rest Q)) : WS G A X env body Γ (TurnEnd it C9 rest Q) :=
 .mk fun s S => (w.go s S).mono fun fl ae z => by
  cases fl
  .exact z.imp fun Γ z => ⟨z.1, h _ z.2⟩
  .exact z
  .exact z.imp fun Γ z => ⟨z.1, h _ z.2⟩
  .exact z
def Dc {fH : aa} {a : Addr} {o : bG} {Q : aa -> Prop} (p : aC a o fH R) (q : Q R) : ∃ cy, ao fH ([(a, o)] ++ cy) /\ Q cy := ⟨R, ao.pick p (.refl _), q⟩
inductive wK (G : Base) (A : Around) (X : Value -> Shared -> Prop) (env : Env) (target : Expr) (k : Nat) (body : List Stmt) (Q : aN -> aa -> Prop) (xs : List AV) (ae : aa) : Prop
 | one {x : AV} (e : xs = [x]) (t : ∀ X', Each k fun it => WA G A X' env target x (it ++ ae) fun fJ => WS G A X' env body fJ (TurnEnd it (fun _ => Q .next) [] Q))
 | end (e : xs = []) (q : Q .next ae)
def W1.wL (k : Nat) {target iter : Expr} {body : List Stmt} {Q : aN -> aa -> Prop} (h : WE G A X env iter Γ (wI G A target k (wK G A X env target k body Q)))
  (hs : autoParam (∀ x, foldedSetIterable iter env x = pure x) aJ) : W1 G A X env (.For target iter body [] pos) Γ Q :=
 W1.for k (wK G A X env target k body Q) h (fun X' x rest ae z => by
  cases z with
  | one e t =>
   cases e
   exact (t X').imp fun it w => .mk fun s v S r => (w.go s v S r).mono fun _ fJ w => w.turn fun Γ z => .end rfl z
  | «end» e => cases e) (fun ae z => by
  cases z with
  | one e => cases e
  | «end» _ q => exact q) hs
def W1.FN (k : Nat) {target iter : Expr} {body : List Stmt} {Q : aN -> aa -> Prop} (Inv : List AV -> aa -> Prop)
  (h : WE G A X env iter Γ (wI G A target k Inv))
  (turn : ∀ x rest ae, Inv (x :: rest) ae -> Each k fun it => WA G A (notedBy G.M A env (cameBackBy G.M A env X)) env target x (it ++ ae) fun fJ => WS G A (notedBy G.M A env (cameBackBy G.M A env X)) env body fJ (TurnEnd it Inv rest Q))
  (fin : ∀ ae, Inv [] ae -> Q .next ae)
  (hs : autoParam (∀ x, foldedSetIterable iter env x = pure x) aJ) : W1 G A X env (.For target iter body [] pos) Γ Q := .mk fun s S => by
 refine wpAny_For ((h.go s S).seq fun v iv ag ay r ax aG hh => ?_) hs
 cases hh with | @mk xs ai hw hI => ?_
 refine hw ay v _ _ ax r fun I wr os St s' hk hl hP S' T' st => ?_
 exact qQ hP Inv (fun x rest ae ie jc qK => (turn x rest ae qK).go wr ie hk jc) fin xs 0 ai Γ s.heap s' os rfl (Nat.zero_le _) hl S' st hI (aG.trans T')
inductive LI {α : Type} (ts : List α) (f : α -> AV) (Inv : List α -> List α -> aa -> Prop) (xs : List AV) (ae : aa) : Prop
 | mk (dn todo : List α) (e : ts = dn ++ todo) (x : xs = todo.map f) (i : Inv dn todo ae)
theorem LI.fin {α : Type} {ts : List α} {f : α -> AV} {Inv : List α -> List α -> aa -> Prop} {ae : aa} (h : LI ts f Inv [] ae) : Inv ts [] ae := by
 obtain ⟨dn, todo, e, x, i⟩ := h
 cases todo with
 | nil => rw [e, List.append_nil]; exact i
 | cons => contradiction
def Az {it fH cy : aa} {J : aa -> Prop} (w : ao fH (it ++ cy)) (i : J cy) : ∃ cy, ao fH (it ++ cy) /\ J cy := ⟨cy, w, i⟩
theorem LI.turn {α : Type} {ts : List α} {f : α -> AV} {Inv : List α -> List α -> aa -> Prop} {x : AV} {rest : List AV} {ae : aa} {X' : Value -> Shared -> Prop} {target : Expr} {body : List Stmt} {Q : aN -> aa -> Prop} {k : Nat} (h : LI ts f Inv (x :: rest) ae)
  (turn : ∀ dn t todo, ts = dn ++ t :: todo -> Inv dn (t :: todo) ae -> Each k fun it => WA G A X' env target (f t) (it ++ ae) fun fJ => WS G A X' env body fJ (TurnEnd it (fun _ => Inv (dn ++ [t]) todo) [] Q)) :
  Each k fun it => WA G A X' env target x (it ++ ae) fun fJ => WS G A X' env body fJ (TurnEnd it (LI ts f Inv) rest Q) := by
 obtain ⟨dn, todo, e, ex, i⟩ := h
 cases todo with
 | nil => contradiction
 | cons t todo =>
  cases ex
  refine (turn dn t todo e i).imp fun it w => .mk fun s v S r => (w.go s v S r).mono fun _ fJ w => .mk fun s S => (w.go s S).mono fun fl ae z => ?_
  have e' : ts = (dn ++ [t]) ++ todo := e.trans (List.append_cons ..)
  cases fl
  .exact z.imp fun Γ z => ⟨z.1, _, _, e', rfl, z.2⟩
  .exact z
  .exact z.imp fun Γ z => ⟨z.1, _, _, e', rfl, z.2⟩
  .exact z
def W1.forL (k : Nat) {α : Type} (ts : List α) (f : α -> AV) {target iter : Expr} {body : List Stmt} {Q : aN -> aa -> Prop} (Inv : List α -> List α -> aa -> Prop)
  (h : WE G A X env iter Γ (C8 G A target k ts f Inv))
  (turn : ∀ X' ae dn t todo, ts = dn ++ t :: todo -> Inv dn (t :: todo) ae -> Each k fun it => WA G A X' env target (f t) (it ++ ae) fun fJ => WS G A X' env body fJ (TurnEnd it (fun _ => Inv (dn ++ [t]) todo) [] Q))
  (fin : ∀ ae, Inv ts [] ae -> Q .next ae)
  (hs : autoParam (∀ x, foldedSetIterable iter env x = pure x) aJ) : W1 G A X env (.For target iter body [] pos) Γ Q :=
 W1.for k (LI ts f Inv) (.mk fun s S => (h.go s S).mono fun iv ag z => (by cases z with | mk w i => exact .mk w ⟨[], ts, rfl, rfl, i⟩)) (fun X' x rest ae z => z.turn (turn X' ae)) (fun ae z => fin _ z.fin) hs
def W1.AA (k : Nat) {α : Type} (ts : List α) (f : α -> AV) {target iter : Expr} {body : List Stmt} {Q : aN -> aa -> Prop} (Inv : List α -> List α -> aa -> Prop)
  (h : WE G A X env iter Γ (C8 G A target k ts f Inv))
  (turn : ∀ ae dn t todo, ts = dn ++ t :: todo -> Inv dn (t :: todo) ae -> Each k fun it => WA G A (notedBy G.M A env (cameBackBy G.M A env X)) env target (f t) (it ++ ae) fun fJ => WS G A (notedBy G.M A env (cameBackBy G.M A env X)) env body fJ (TurnEnd it (fun _ => Inv (dn ++ [t]) todo) [] Q))
  (fin : ∀ ae, Inv ts [] ae -> Q .next ae)
  (hs : autoParam (∀ x, foldedSetIterable iter env x = pure x) aJ) : W1 G A X env (.For target iter body [] pos) Γ Q :=
 W1.FN k (LI ts f Inv) (.mk fun s S => (h.go s S).mono fun iv ag z => (by cases z with | mk w i => exact .mk w ⟨[], ts, rfl, rfl, i⟩)) (fun x rest ae z => z.turn (turn ae)) (fun ae z => fin _ z.fin) hs
structure WI (G : Base) (A : Around) (X : Value -> Shared -> Prop) (env : Env) (ifs : List Expr) (Γ : aa) (Q : Bool -> aa -> Prop) : Prop where
 go : ∀ s, aM G Γ s -> Tr G A X (forIn ifs true fun c r => if r = true then do let ok <- isTrue c env (eval c env); pure (ForInStep.yield ok) else pure (ForInStep.yield r)) pq Γ Q s
def WI.nil {Q : Bool -> aa -> Prop} (q : Q true Γ) : WI G A X env [] Γ Q := .mk fun s S => wpAny_tests_nil (.here rfl S .refl q)
def WI.one {c : Expr} {Q : Bool -> aa -> Prop} (h : WT G A X env c Γ Q) : WI G A X env [c] Γ Q := .mk fun s S => wpAny_tests_one (h.go s S)
noncomputable abbrev blank (ms : List Str) : List (Str × Option AV) := ms.map fun x => (x, none)
inductive CompEnd (it : aa) (D C : Addr) (ms : List Str) (Inv : List AV -> List AV -> aa -> Prop) (acc : List AV) (rest : List AV) (ys : List AV) (pC : aa) : Prop
 | mk (cy : aa) (m : List (Str × Option AV)) (hm : m.map (·.1) = ms) (w : ao pC (it ++ (D, .list acc) :: (C, .ns m) :: cy)) (i : Inv (acc ++ ys) rest cy)
def ji (G : Base) (A : Around) (X' : Value -> Shared -> Prop) (aF : Env) (target elt : Expr) (ifs : List Expr) (ms : List Str) (D C : Addr) (Inv : List AV -> List AV -> aa -> Prop) (acc : List AV) (x : AV) (rest : List AV) (ae it : aa) : Prop :=
 WA G A X' aF target x (it ++ (D, .list acc) :: (C, .ns (blank ms)) :: ae) fun fJ => WI G A X' aF ifs fJ fun ok fH => match ok with
  | true => WE G A X' aF elt fH fun y pC => CompEnd it D C ms Inv acc rest [y] pC
  | false => CompEnd it D C ms Inv acc rest [] fH
def FO {it fH cy : aa} {ms : List Str} {m : List (Str × Option AV)} {Inv : List AV -> List AV -> aa -> Prop} {acc rest ys : List AV} (hm : m.map (·.1) = ms) (w : ao fH (it ++ (D, .list acc) :: (C, .ns m) :: cy)) (i : Inv (acc ++ ys) rest cy) : CompEnd it D C ms Inv acc rest ys fH := ⟨cy, m, hm, w, i⟩
theorem aM.blank {P : aa} {m : List (Str × Option AV)} {ms : List Str} (S : aM G (P ++ (C, .ns m) :: Γ) s) (hm : m.map (·.1) = ms) : aM G (P ++ (C, .ns (blank ms)) :: Γ) s /\ Step G (P ++ (C, .ns m) :: Γ) s.heap (P ++ (C, .ns (blank ms)) :: Γ) s.heap := by
 have hk : keys (P ++ (C, .ns (Mine.blank ms)) :: Γ) = keys (P ++ (C, .ns m) :: Γ) := by simp [keys]
 have hv : bc G (P ++ (C, .ns (Mine.blank ms)) :: Γ) = bc G (P ++ (C, .ns m) :: Γ) := by funext b; unfold bc; rw [hk]
 refine ⟨⟨S.old, S.keep, hv ▸ S.tabs, fun p hp => ?_, hk ▸ S.nodup, fun p hp => ?_, S.gens, S.os⟩, ⟨fun _ _ o e => ⟨o, e⟩, fun _ _ e _ => e, fun _ q => .inl (hk ▸ q)⟩⟩
 .refine hv ▸ ?_
  rcases List.mem_append.mp hp with h | h
  .exact S.own p (List.mem_append_left _ h)
  rcases List.mem_cons.mp h with rfl | h
  .k_dflt obtain ⟨mm, hn, nd, q⟩ := S.own (C, .ns m) (List.mem_append_right _ (.head _))
   refine ⟨mm, hn, ?_, fun p hp => ?_⟩
   .rw [List.map_map]; rw [hm] at nd; exact by rw [show ms.map ((fun x : Str × Option AV => x.1) ∘ fun x => (x, none)) = ms from by simp [Function.comp_def]]; exact nd
   .obtain ⟨x, hx, rfl⟩ := List.mem_map.mp hp
    cases mm x <;> trivial
  .exact S.own p (List.mem_append_right _ (.tail _ h))
 .rcases List.mem_append.mp hp with h | h
  .exact S.low p (List.mem_append_left _ h)
  rcases List.mem_cons.mp h with rfl | h
  .exact S.low (C, .ns m) (List.mem_append_right _ (.head _))
  .exact S.low p (List.mem_append_right _ (.tail _ h))
def qT {P : aa} {acc : List AV} {y : AV} {v : Value} {Q : Value -> Shared -> Prop} (S : aM G (P ++ (D, .list acc) :: R) s) (hz : acc.length <= sizeLine) (r : Rep (bc G (P ++ (D, .list acc) :: R)) s.heap v y)
  (h : ∀ s', aM G (P ++ (D, .list (acc ++ [y])) :: R) s' -> Step G (P ++ (D, .list acc) :: R) s.heap (P ++ (D, .list (acc ++ [y])) :: R) s'.heap -> Q .none s') : wpAny G.M A (call (.builtin "list.append") [.ref D, v]) Q X s := by
 k_dflt obtain ⟨vs, k, e, rs⟩ := S.at (aC.app (a := D) (o := .list acc) (P := P) (R := R))
 have JC : vs.toArray.size <= sizeLine := by rw [List.size_toArray, rs.length]; exact hz
 refine wpAny_list_append_plain ⟨k, e⟩ (fun h' ⟨k', hl⟩ hs => ?_) JC
 have z := S.change (s' := { s with heap := h' }) (o' := .list (acc ++ [y])) aC.app hs rfl rfl fun kk => by
  refine ⟨vs ++ [v], k', by rw [hl]; simp, (rs.keep kk).append (.one (r.keep kk))⟩
 have p : (((D, bG.list (acc ++ [y])) :: (P ++ R)).Perm (P ++ (D, .list (acc ++ [y])) :: R)) := List.perm_middle.symm
 exact h _ (z.1.perm p) (z.2.trans (.perm p))
def u9 {target elt iter : Expr} {ifs : List Expr} {scope : Scope} {ms : List Str} {I : Addr} {wr : List Addr} {xs : List AV} {St : Nat -> (Addr -> Prop) -> Heap -> Prop} {RR : Result -> Shared -> Prop} (P : fk G A target I wr xs St)
  (hz : xs.length <= sizeLine) (Inv : List AV -> List AV -> aa -> Prop)
  (turn : ∀ X' acc x rest ae os, os.length = wr.length -> Inv acc (x :: rest) ae -> ji G A X' aF target elt ifs ms D C Inv acc x rest ae (aY wr os)) (cY : aa) (h₀ : Heap)
  (fin : ∀ acc ae m s', m.map (·.1) = ms -> aM G ((D, .list acc) :: (C, .ns m) :: ae) s' -> Step G cY h₀ ((D, .list acc) :: (C, .ns m) :: ae) s'.heap -> Inv acc [] ae -> RR (.ok .next) s') :
  ∀ (rest : List AV) (i : Nat) (acc : List AV) (ae : aa) (s : Shared) (os : List Obj) (m : List (Str × Option AV)), m.map (·.1) = ms -> acc.length <= i -> xs.drop i = rest -> i <= xs.length -> os.length = wr.length ->
   aM G (aY wr os ++ (D, .list acc) :: (C, .ns m) :: ae) s -> St i (bc G (aY wr os ++ (D, .list acc) :: (C, .ns m) :: ae)) s.heap -> Inv acc rest ae -> Step G cY h₀ (aY wr os ++ (D, .list acc) :: (C, .ns m) :: ae) s.heap ->
   codeAny G.M A (.compLoop (.ListComp elt [⟨target, iter, ifs, 0⟩] scope pos) 0 (.ref I) (.ref D) aF) RR s := by
 intro rest
 induction rest with
 | nil =>
  intro i acc ae s os m hm ha hd hi hl S st hI T
  refine codeAny_of_tree ?_
  show wpAny _ A ((compTurn (.ListComp elt [⟨target, iter, ifs, 0⟩] scope pos) 0 (.ref I) (.ref D) aF).onRaise (fun x => do noteFrame x aF; theTreesLotGoes x)) _ _ s
  refine wpAny_noted ?_
  rw [compTurn_list]
  have hlen : i = xs.length := Nat.le_antisymm hi (List.drop_eq_nil_iff.mp hd)
  subst hlen
  refine wpAny_bind (wpAny_standAt (wpAny_bind (P.done s _ _ _ st fun h' tk hk => ?_)))
  have z := S.wF (s' := { s with heap := h', toks := tk }) hl hk rfl rfl
  exact wpAny_pure (fin acc ae m _ hm z.1 (T.trans z.2) hI)
 | cons x rest ih =>
  intro i acc ae s os m hm ha hd hi hl S st hI T
  refine codeAny_of_tree ?_
  show wpAny _ A ((compTurn (.ListComp elt [⟨target, iter, ifs, 0⟩] scope pos) 0 (.ref I) (.ref D) aF).onRaise (fun x => do noteFrame x aF; theTreesLotGoes x)) _ _ s
  refine wpAny_noted ?_
  rw [compTurn_list]
  obtain ⟨hx, u7, FL⟩ := drop_cons hd
  generalize hF : (D, bG.list acc) :: (C, .ns m) :: ae = F at S st T
  have hV := fun b hb => qP (G := G) (F := F) hl (b := b) hb
  refine wpAny_bind (wpAny_standAt (wpAny_bind (P.item i x s _ _ _ hx hV (fun b hb => S.there hb) st fun v h' tk hk Bn => ?_)))
  refine wpAny_bind (Bn _ _ fun iD wD C6 rv sT => ?_)
  k_dflt obtain ⟨ie, jc, ho⟩ := lQ iD wr fun b hb => P.obj _ _ _ sT b hb
  have z := S.rewrite (s' := { s with heap := iD, toks := wD }) hl jc ho C6 rfl rfl
  have qR := n3 (G := G) (F := F) jc hl
  have C7 : Rep (bc G (aY wr ie ++ F)) iD v x := by rw [qR]; exact rv
  have Bo : St (i + 1) (bc G (aY wr ie ++ F)) iD := by rw [qR]; exact sT
  have HC : aY wr ie ++ F = (aY wr ie ++ [(D, bG.list acc)]) ++ (C, .ns m) :: ae := by rw [<- hF]; simp
  have zb := aM.blank (C := C) (m := m) (HC ▸ z.1) hm
  have JD : (aY wr ie ++ [(D, bG.list acc)]) ++ (C, .ns (Mine.blank ms)) :: ae = aY wr ie ++ (D, .list acc) :: (C, .ns (Mine.blank ms)) :: ae := by simp
  replace zb := HC ▸ JD ▸ zb
  have Tz := z.2.trans zb.2
  have FP := C7.keep zb.2.az
  refine wpAny_bind (((turn _ acc x rest ae ie jc hI).go _ v zb.1 FP).seq fun _ _ fJ ay _ ax aG hb => ?_)
  refine wpAny_bind ((hb.go ay ax).seq fun ok eL fH aW e bp bx hc => ?_)
  k_dflt subst e
  have HD : ∀ {yZ : List AV} {m' : List (Str × Option AV)} {cy : aa} {gK : Shared}, aM G (aY wr ie ++ (D, .list yZ) :: (C, .ns m') :: cy) gK -> Step G (aY wr ie ++ F) iD (aY wr ie ++ (D, .list yZ) :: (C, .ns m') :: cy) gK.heap ->
    m'.map (·.1) = ms -> yZ.length <= i + 1 -> Inv yZ rest cy -> codeAny G.M A (.compLoop (.ListComp elt [⟨target, iter, ifs, 0⟩] scope pos) 0 (.ref I) (.ref D) aF) RR gK := fun iE jf sU JE qK =>
   ih (i + 1) _ _ _ ie _ sU JE u7 FL jc iE (lR P jc z.1 iE jf Bo) qK ((T.trans z.2).trans jf)
  cases ok with
  | false =>
   k_dflt obtain ⟨cy, m', sU, w, qK⟩ := hc
   rw [List.append_nil] at qK
   exact wpAny_pure ⟨rfl, HD (w.sim bp) (((zb.2.trans aG).trans bx).trans w.step) sU (by tm_at "o") qK⟩
  | true =>
   refine wpAny_bind (wpAny_bind ((hc.go aW bp).seq fun y yv pC gK ry iE jf hq => ?_))
   k_dflt obtain ⟨cy, m', sU, w, qK⟩ := hq
   refine wpAny_bind (qT (w.sim iE) (by tm_at "o") (ry.weak w) fun JF sV y0 => ?_)
   refine wpAny_pure (wpAny_pure ⟨rfl, HD sV ((((zb.2.trans aG).trans bx).trans jf).trans (w.step.trans y0)) sU (by simp; tm_at "o") qK⟩)
end
end
section
noncomputable def jj (outer names : List (Str × NameKind)) : List (Str × NameKind) := names.map fun (n, k) => if (k == .free && outer.lookup n == some .cell) then (n, .cell) else (n, k)
inductive iT (cl : List (Str × Addr)) : List (Str × NameKind) -> List (Str × Addr) -> List (Str × Addr) -> Prop
 | nil {acc} : iT cl [] acc acc
 | free {x c names acc res} : (x, c) ∈ cl -> iT cl names ((x, c) :: acc) res -> iT cl ((x, .free) :: names) acc res
 | other {x k names acc res} : (k == .free) = false -> iT cl names acc res -> iT cl ((x, k) :: names) acc res
section
variable {env aF : Env} {pos : Pos} {names aB : List (Str × NameKind)} {cl cN : List (Str × Addr)} {Γ ag ai R : aa} {s s' : Shared} {n : Nat} {L C D : Addr}
def iT.go {f : Str -> Sem Addr} (hf : ∀ x c, (x, c) ∈ cl -> f x = pure c) {ns : List (Str × NameKind)} {acc res : List (Str × Addr)} (h : iT cl ns acc res) :
  (forIn ns acc fun (p : Str × NameKind) (cs : List (Str × Addr)) => (if (p.2 == NameKind.free) = true then do let a <- f p.1; pure (ForInStep.yield ((p.1, a) :: cs)) else pure (ForInStep.yield cs) : Sem _)) = (pure res : Sem _) := by
 induction h with
 | nil => rfl
 | free h _ ih =>
  rw [List.forIn_cons]
  have e1 : (NameKind.free == NameKind.free) = true := rfl
  simp only [e1, if_true, hf _ _ h]
  exact ih
 | @other x k names acc res h _ ih =>
  rw [List.forIn_cons]
  simp only [h, Bool.false_eq_true, if_false]
  exact ih
def jk (ok : aA env names L cl) {scope : Scope} (h : iT cl scope.names [] cN) : closureFor scope env = pure cN := by
 have := h.go (f := cellOf env) fun x c hc => by unfold cellOf; rw [ok.cells x c hc]
 unfold closureFor
 rw [show (pure cN : Sem (List (Str × Addr))) = (pure cN >>= pure) from rfl, <- this]
def nr (ok : aA env names L cl) (scope : Scope) : (relabel scope env).names = jj names scope.names := by
 unfold relabel jj
 skip
 refine List.map_congr_left fun p hp => ?_
 obtain ⟨x, k⟩ := p
 dsimp only
 rw [ok.kind, show env.kindOf x = names.lookup x from by show env.scope.names.lookup x = _; rw [ok.hn]]
 have e1 : (ScopeKind.function == ScopeKind.function) = true := rfl
 rw [e1, Bool.and_true]
def aM.AB {a : Addr} {o : bG} (S : aM G ((a, o) :: Γ) s) (hk : ∀ b ob, b ≠ a -> s.heap.get? b = some ob -> s'.heap.get? b = some ob) (hg : s'.gens = s.gens) (eK : s'.os = s.os) : aM G Γ s' /\ Step G ((a, o) :: Γ) s.heap Γ s'.heap := by
 have nd := List.nodup_cons.mp S.nodup
 exact S.go (fun b => b = a) (fun b hb => .inl (hb ▸ .head _)) (fun b ob e nb => hk b ob nb e) (fun q hq => .inl (.tail _ hq)) (fun k q hq e => absurd (show a ∈ keys Γ by refine e ▸ ?_; exact List.mem_map_of_mem hq) nd.1) nd.2 hg eK
theorem jl {a : Addr} {o : bG} (S : aM G ((a, o) :: Γ) s) : ¬ bc G Γ a := fun h => h.elim (fun h => by
  obtain ⟨c, ps, t⟩ := G.sO a h
  have := S.low (a, o) (.head _)
  rw [t.2] at this; contradiction) fun h => (List.nodup_cons.mp S.nodup).1 h
def eQ {xs : List AV} (S : aM G ((D, .list xs) :: Γ) s) : aM G Γ s /\ Rep (bc G Γ) s.heap (.ref D) (.lst xs) := by
 k_dflt obtain ⟨vs, k, e, rs⟩ := S.at .here
 exact ⟨(ao.drop (.refl Γ)).sim S, .lst e (jl S) (rs.weak (.drop (.refl Γ)))⟩
def n5 (k : Nat) {target elt iter : Expr} {ifs : List Expr} {scope : Scope} {ms : List Str} {use : Option (Value -> Sem Unit)} {Qc : Value -> Shared -> Prop} (ok : aA env names L cl)
  (hn : jj names scope.names = aB) (hs : bz aB = true) (ud : (scope.names.all fun x => x.2 != .cell) = true) (len : iT cl scope.names [] cN) (va : (cN.map (·.1)).Nodup) (wM : ms.Nodup)
  (Inv : List AV -> List AV -> aa -> Prop) (S : aM G Γ s)
  (h : WE G A X env iter Γ (pB G A target k Inv))
  (turn : ∀ X' aF D C acc x rest ae, aA aF aB C cN -> Inv acc (x :: rest) ae -> Each k fun it => ji G A X' aF target elt ifs ms D C Inv acc x rest ae it)
  (fin : ∀ D C acc ae m s', m.map (·.1) = ms -> aM G ((D, .list acc) :: (C, .ns m) :: ae) s' -> Step G Γ s.heap ((D, .list acc) :: (C, .ns m) :: ae) s'.heap -> Inv acc [] ae -> compPost G.M A X use Qc (.ref D) C (.ok .next) s')
  (hk : autoParam (scope.kind = .function) aR)
  (hf : autoParam (∀ x, foldedSetIterable iter env x = pure x) aJ) :
  wpAny G.M A (comprehension (.ListComp elt [⟨target, iter, ifs, 0⟩] scope pos) scope env (firstIterPos [⟨target, iter, ifs, 0⟩] pos) (newList []) false (eval iter env) use) Qc X s := by
 have sk := ew hs
 have JG : (scope.names.map (·.1)).Nodup := by
  have : aB.map (·.1) = scope.names.map (·.1) := by
   rw [<- hn]; unfold jj; rw [List.map_map]
   refine List.map_congr_left fun p _ => ?_
   obtain ⟨x, k⟩ := p
   dsimp only [Function.comp]
   split <;> rfl
  refine this ▸ ?_; exact sk.1
 refine wpAny_comprehension_free (e := .ListComp elt [⟨target, iter, ifs, 0⟩] scope pos) rfl hf (jk ok len) hk (fun x hx hl => ?_) ?_
 .obtain ⟨x, kk⟩ := x
  dsimp only at hl ⊢; subst hl
  exact ck JG hx
 refine (h.go s S).seq fun v iv ag ay r ax aG zz => ?_
 cases zz with | @mk xs ai hw hz hI => ?_
 refine hw ay v _ _ ax r fun I wr os St aW AD eK hP bp bx st => ?_
 refine Tr.seq (nY (Γ := aY wr os ++ ai) (xs := []) (Q := fun v ae => ∃ a, v = .raw (.ref a) /\ ae = (a, .list []) :: (aY wr os ++ ai)) bp .nil (Nat.zero_le _) fun a => ⟨a, rfl, rfl⟩) fun acc av Ax gK ra iE jf zz => ?_
 k_dflt obtain ⟨D, e1, e2⟩ := zz
 subst e1; subst e2; apply Rep.bX ra
 refine wpAny_newFunctionEnv (fun x hx e => by
  have := List.all_eq_true.mp ud x hx
  rw [e] at this; contradiction) (fun x hx => nomatch hx) (fun h' Cv ue => ?_) hk
 dsimp only [Option.isSome] at ue
 have pD := bK gK.heap
 have z := iE.add (s' := { gK with heap := h', toks := gK.toks + ([] : List (Str × Value)).length }) (a := gK.heap.objs.size) (o' := .ns (blank ms)) pD (fun b ob e => by
  have hb : b ≠ gK.heap.objs.size := fun q => by rw [q, pD] at e; contradiction
  exact (ue.2 b hb).trans (Heap.get?_push_of_some _ e)) rfl rfl (fun k => by
   refine ⟨_, Cv, by simpa [List.map_map, Function.comp_def] using wM, fun p hp => ?_⟩
   obtain ⟨x, hx, rfl⟩ := List.mem_map.mp hp
   dsimp only
   cases (List.lookup x ([] : List (Str × Value)).reverse) <;> trivial)
 generalize hC : gK.heap.objs.size = C at z Cv
 have pm : ((C, bG.ns (blank ms)) :: (D, .list []) :: (aY wr os ++ ai)).Perm (aY wr os ++ (D, .list []) :: (C, .ns (blank ms)) :: ai) :=
  (List.Perm.swap _ _ _).trans ((List.perm_middle (l₁ := aY wr os) (l₂ := (C, bG.ns (blank ms)) :: ai) (a := (D, bG.list []))).trans ((List.perm_middle (l₁ := aY wr os) (l₂ := ai) (a := (C, bG.ns (blank ms)))).cons _)).symm
 have sV := z.1.perm pm
 have y0 := z.2.trans (.perm pm)
 have TT := (aG.trans bx).trans (jf.trans y0)
 have sT := lR hP eK bp (fH := (D, .list []) :: (C, .ns (blank ms)) :: ai) sV (jf.trans y0) st
 have dC : aA { newEnv scope C env.globals cN env.qual none .none (some env) builtinsNs with scope := relabel scope env } aB C cN :=
  ⟨(nr ok scope).trans hn, hk, sk.1, sk.2, rfl, ok.globals, ok.builtins, fun x c hc => lookup_mem va hc⟩
 have loop : codeAny G.M A (.compLoop (.ListComp elt [⟨target, iter, ifs, 0⟩] scope pos) 0 (.ref I) (.ref D) { newEnv scope C env.globals cN env.qual none .none (some env) builtinsNs with scope := relabel scope env })
   (compPost G.M A X use Qc (.ref D) C) { gK with heap := h', toks := gK.toks + ([] : List (Str × Value)).length } :=
  u9 (C := C) hP hz Inv (fun X' acc x rest ae ie jc qK => (turn X' _ D C acc x rest ae dC qK).go wr ie AD jc) Γ s.heap (fun acc ae m s' hm S' T' qK => fin D C acc ae m s' hm S' T' qK) xs 0 [] ai _ os (blank ms) (by simp [List.map_map, Function.comp_def]) (Nat.zero_le _) rfl (Nat.zero_le _) eK sV sT hI TT
 exact codeAny_compStart_list loop (hP.self 0 _ _ _ _ sT loop)
theorem wN {acc : List AV} {m : List (Str × Option AV)} {Q : AV -> aa -> Prop} {h₀ : Heap} {cY : aa} (S : aM G ((D, .list acc) :: (C, .ns m) :: Γ) s) (T : Step G cY h₀ ((D, .list acc) :: (C, .ns m) :: Γ) s.heap) (q : Q (.lst acc) Γ) :
  compPost G.M A X none (gv G cY h₀ Rep Q) (.ref D) C (.ok .next) s := by
 obtain ⟨mm, hn, _⟩ := S.own (C, .ns m) (.tail _ (.head _))
 refine ⟨mm, hn, fun h' hs => ?_⟩
 have p : ((D, bG.list acc) :: (C, .ns m) :: Γ).Perm ((C, .ns m) :: (D, .list acc) :: Γ) := .swap _ _ _
 have z := (S.perm p).AB (s' := { s with heap := h' }) (fun b ob nb e => (hs.2 b nb).trans e) rfl rfl
 obtain ⟨S', r⟩ := eQ z.1
 exact ⟨.lst acc, Γ, r, S', ((T.trans (.perm p)).trans z.2).trans (ao.drop (.refl Γ)).step, q⟩
def WE.jm (k : Nat) (ms : List Str) (aB : List (Str × NameKind)) (cN : List (Str × Addr)) {target elt iter : Expr} {ifs : List Expr} {scope : Scope} {Q : AV -> aa -> Prop} (ok : aA env names L cl)
  (hn : jj names scope.names = aB) (hs : bz aB = true) (ud : (scope.names.all fun x => x.2 != .cell) = true) (len : iT cl scope.names [] cN) (va : (cN.map (·.1)).Nodup) (wM : ms.Nodup)
  (Inv : List AV -> List AV -> aa -> Prop)
  (h : WE G A X env iter Γ (pB G A target k Inv))
  (turn : ∀ X' aF D C acc x rest ae, aA aF aB C cN -> Inv acc (x :: rest) ae -> Each k fun it => ji G A X' aF target elt ifs ms D C Inv acc x rest ae it)
  (fin : ∀ acc ae, Inv acc [] ae -> Q (.lst acc) ae)
  (hk : autoParam (scope.kind = .function) aR)
  (hf : autoParam (∀ x, foldedSetIterable iter env x = pure x) aJ) : WE G A X env (.ListComp elt [⟨target, iter, ifs, 0⟩] scope pos) Γ Q := .mk fun s S => by
 skip
 rw [eval_ListComp]
 exact n5 k ok hn hs ud len va wM Inv S h turn (fun D C acc ae m s' hm S' T' hI => wN S' T' (fin acc ae hI)) hk hf
def W1.kF (k : Nat) (ms : List Str) (aB : List (Str × NameKind)) (cN : List (Str × Addr)) {target elt iter : Expr} {ifs : List Expr} {scope : Scope} {y : Str} {py p' : Pos} {Q : aN -> aa -> Prop} (ok : aA env names L cl)
  (hn : jj names scope.names = aB) (hs : bz aB = true) (ud : (scope.names.all fun x => x.2 != .cell) = true) (len : iT cl scope.names [] cN) (va : (cN.map (·.1)).Nodup) (wM : ms.Nodup)
  (hy : (y, .local) ∈ names) (FQ : (py.line == pos.line && !(scope.names.any fun (n, k) => n == y && (k == .local || k == .cell))) = true)
  (Inv : List AV -> List AV -> aa -> Prop)
  (h : WE G A X env iter Γ (pB G A target k Inv))
  (turn : ∀ X' aF D C acc x rest ae, aA aF aB C cN -> Inv acc (x :: rest) ae -> Each k fun it => ji G A X' aF target elt ifs ms D C Inv acc x rest ae it)
  (fin : ∀ acc ae C m, Inv acc [] ae -> WA G A X env (.Name y py) (.lst acc) ((C, .ns m) :: ae) fun ai => ∃ m' R, aC C (.ns m') ai R /\ Q .next R)
  (hk : autoParam (scope.kind = .function) aR)
  (hf : autoParam (∀ x, foldedSetIterable iter env x = pure x) aJ) : W1 G A X env (.Assign [.Name y py] (.ListComp elt [⟨target, iter, ifs, 0⟩] scope pos) p') Γ Q := .mk fun s S => by
 have e : swapsWith (.ListComp elt [⟨target, iter, ifs, 0⟩] scope pos) (some (.Name y py)) p'.line env = pure true := by
  show (pure (env.blockKind == .function && env.kindOf y == some .local && py.line == pos.line && !(scope.names.any fun (n, k) => n == y && (k == .local || k == .cell))) : Sem Bool) = pure true
  have e1 : env.blockKind = .function := by unfold Env.blockKind; rw [ok.kind]; rfl
  rw [e1, ok.kindOf hy, Bool.and_assoc, FQ]; rfl
 skip
 refine (exec_Assign_Name_used _ _ _ _ e) ▸ ?_
 refine wpAny_bind (wpAny_standAt (wpAny_bind ?_))
 show wpAny _ A (do let _ <- comprehension (.ListComp elt [⟨target, iter, ifs, 0⟩] scope pos) scope env (firstIterPos [⟨target, iter, ifs, 0⟩] pos) (newList []) false (eval iter env) (some (PySem.assign (.Name y py) env))) _ _ s
 refine wpAny_bind (wpAny_mono (n5 k (Qc := fun _ s' => gv G Γ s.heap jW Q Flow.next s') (use := some (PySem.assign (.Name y py) env)) ok hn hs ud len va wM Inv S h turn (fun D C acc ae m s' hm S' T' hI => ?_) hk hf) (fun _ s' q => wpAny_pure (wpAny_pure q)) fun _ _ e => e)
 obtain ⟨ax, r⟩ := eQ S'
 have w : Step G ((D, bG.list acc) :: (C, .ns m) :: ae) s'.heap ((C, .ns m) :: ae) s'.heap := (ao.drop (.refl _)).step
 skip
 refine ((fin acc ae C m hI).go s' _ ax r).seq fun _ _ ai aW _ bp bx zz => ?_
 k_dflt obtain ⟨m', R, p, q⟩ := zz
 have iE := bp.perm p.perm
 k_dflt obtain ⟨mm, hn, _⟩ := iE.at .here
 refine ⟨mm, hn, fun h' hs => ?_⟩
 have z := iE.AB (s' := { aW with heap := h' }) (fun b ob nb e => (hs.2 b nb).trans e) rfl rfl
 exact ⟨.next, R, .next, z.1, (((T'.trans w).trans bx).trans (.perm p.perm)).trans z.2, q⟩
end
end
section
section
variable {env : Env} {pos : Pos} {Γ ag ai R : aa} {s s' : Shared} {n : Nat} {Q : AV -> aa -> Prop}
noncomputable def jY (e : Expr) : Bool := e.ctorIdx != 0 && (e.ctorIdx != 3 && (e.ctorIdx != 5 && e.ctorIdx != 15))
def isTrue_plain {e : Expr} (h : jY e = true) (whole : Sem Value) : isTrue e env whole = (do let v <- whole; standAt e.pos; holding [v] (truthy v)) := by
 cases e <;> first | rfl | contradiction
def WT.val {e : Expr} {Γ : aa} {Q : Bool -> aa -> Prop} (h : WE G A X env e Γ (uc Q)) (he : autoParam (jY e = true) aU) : WT G A X env e Γ Q := .mk fun s S =>
 wpAny_isTrue_value ((h.go s S).seq fun v x ag ay r ax aG zz => by
  k_dflt obtain ⟨b, e, q⟩ := zz.inv
  subst e; apply Rep.bX r
  exact wpAny_truthy_bool (.here rfl ax aG q)) (isTrue_plain he _)
set_option tactic.hygienic true in
def WC.ei {xs : List AV} (hz : xs.length <= sizeLine) (q : Q (.tup xs) Γ) : WC G A X (.type "tuple") [.lst xs] Γ Q := .mk fun s vs S r => by
 cases r with | cons r r0 => cases r0; have ri := r.inv; clear r; induction ri with
 | lst e nv rs =>
  rename_i a vs k
  refine call_tuple_list (IsList.of e) (fun h' hk => ?_) (by rw [List.size_toArray, rs.length]; exact hz)
  have z := S.grow (s' := { s with heap := h'.push { cls := .type "tuple", data := .seq vs.toArray } }) (fun b ob e => Heap.get?_push_of_some _ (hk b ob e)) rfl rfl
  refine .here (.tup (Heap.get?_push_size _ rfl) (S.fresh ?_) (rs.keep z.2.az)) z.1 z.2 q
  cases e : s.heap.get? h'.objs.size with
  | none => rfl
  | some o => exact absurd (Heap.lt_size (hk _ _ e)) (Nat.lt_irrefl _)
def jn {s : Shared} {x : AV} {xs : List AV} {v : Value} (hx : cZ x = some xs) (r : Rep (bc G Γ) s.heap v x) : ∃ a vs k T, v = .ref a /\ (T = "list" \/ T = "tuple") /\ s.heap.get? a = some { cls := .type T, data := .seq vs.toArray k } /\ ¬ bc G Γ a /\ ah (bc G Γ) s.heap vs xs := by
 revert r; apply Bp hx
 .intro r; apply Rep.uX r; intro a vs n e nv rs; exact ⟨_, _, _, _, rfl, .inl rfl, e, nv, rs⟩
 .intro r; apply Rep.lJ r; intro a vs n e nv rs; exact ⟨_, _, _, _, rfl, .inr rfl, e, nv, rs⟩
def vb {s : Shared} {a : Addr} {vs : List Value} {k : Nat} {T : String} {xs : List AV} (S : aM G Γ s) (hT : T = "list" \/ T = "tuple") (e : s.heap.get? a = some { cls := .type T, data := .seq vs.toArray k }) (rs : ah (bc G Γ) s.heap vs xs) (hz : xs.length <= sizeLine)
  (q : ∀ a, Q (.raw (.ref a)) ((a, .list xs) :: Γ)) : Tr G A X (call (.type "list") [.ref a]) Rep Γ Q s :=
 call_list_seq a hT e rfl rfl (fun h' c' hk hD => by
  have z := S.add (s' := { s with heap := h' }) (a := s.heap.objs.size) (o' := .list xs) (bK _) hk rfl rfl fun kk => ⟨vs, c', hD, rs.keep kk⟩
  exact .here (.raw _) z.1 z.2 (q _)) (by rw [List.size_toArray, rs.length]; exact hz)
def WC.wO {x : AV} {xs : List AV} (hx : cZ x = some xs) (hz : xs.length <= sizeLine) (q : ∀ a, Q (.raw (.ref a)) ((a, .list xs) :: Γ)) : WC G A X (.type "list") [x] Γ Q := .mk fun s vs S r => by
 cases r with | cons r r0 => cases r0; obtain ⟨a, vs, k, T, rfl, hT, e, nv, rs⟩ := jn hx r; exact vb S hT e rs hz q
def Tr.frozen {m : Sem Value} {s : Shared} {xs : List AV} (h : Tr G A X m Rep Γ (fun v ae => ∃ a, v = .raw (.ref a) /\ ae = (a, .list xs) :: Γ) s) (q : Q (.lst xs) Γ) : Tr G A X m Rep Γ Q s :=
 h.seq fun v x ag ay r ax aG zz => by
  obtain ⟨a, e, e'⟩ := zz
  subst e; subst e'; apply Rep.bX r
  obtain ⟨bp, r⟩ := eQ ax
  exact ⟨_, _, r, bp, aG.trans (ao.drop (.refl _)).step, q⟩
def WC.dK {x : AV} {xs : List AV} (hx : cZ x = some xs) (hz : xs.length <= sizeLine) (q : Q (.lst xs) Γ) : WC G A X (.type "list") [x] Γ Q := .mk fun s vs S r =>
 Tr.frozen ((WC.wO (Q := fun v ae => ∃ a, v = .raw (.ref a) /\ ae = (a, .list xs) :: Γ) hx hz fun a => ⟨a, rfl, rfl⟩).go s vs S r) q
def lz {k : Nat} (h : k <= sizeLine) : (k : Int) < 2 ^ 63 := by have := sizeLine_eq; tm_at "o"
def WC.cn {x : AV} {xs : List AV} (hx : cZ x = some xs) (hz : xs.length <= sizeLine) (q : Q (.int xs.length) Γ) : WC G A X (.builtin "len") [x] Γ Q := .mk fun s vs S r => by
 apply ah.iK r; intro v vs r r0; apply ah.nh r0; revert r; apply Bp hx
 .intro r; apply Rep.uX r; intro a vs n e nv rs; exact call_len_list (IsList.of e) (by rw [List.size_toArray, rs.length]; exact lz hz) (by rw [List.size_toArray, rs.length]; exact .here (.int _ _) (S.toks _) .refl q)
 .intro r; apply Rep.lJ r; intro a vs n e nv rs; exact PyProof.Rows.len_tuple (IsTup.of e) (by rw [List.size_toArray, rs.length]; exact lz hz) (by rw [List.size_toArray, rs.length]; exact .here (.int _ _) (S.toks _) .refl q)
def WC.len_list {a : Addr} {xs : List AV} (p : aC a (.list xs) Γ R) (hz : xs.length <= sizeLine) (q : Q (.int xs.length) Γ) : WC G A X (.builtin "len") [.raw (.ref a)] Γ Q := .mk fun s vs S r => by
 cases r with | cons r r0 => cases r0; apply Rep.bX r; obtain ⟨vs, k, e, rs⟩ := S.at p; exact call_len_list (IsList.of e) (by rw [List.size_toArray, rs.length]; exact lz hz) (by rw [List.size_toArray, rs.length]; exact .here (.int _ _) (S.toks _) .refl q)
def WC.str_int {i : Int} (hi : i.natAbs.log2 < 1920) (q : Q (.str (toString i)) Γ) : WC G A X (.type "str") [.int i] Γ Q := .mk fun s vs S r => by
 cases r with | cons r r0 => cases r0; apply Rep.dZ r; intro t; exact PySem.P.str_of_int hi (.here (.str _ _) (S.toks _) .refl q)
set_option tactic.hygienic true in
def WB.jo {xs ys : List AV} (hx : xs ≠ []) (hy : ys ≠ []) (hz : xs.length + ys.length <= sizeLine) (q : Q (.tup (xs ++ ys)) Γ) : WB G A X (binaryOp .Add) Rep (.tup xs) (.tup ys) Γ Q := .mk fun s v w S rv rw => by
 have ri := rv.inv; clear rv; induction ri with | tup e nv rs => have ri := rw.inv; clear rw; induction ri with | tup e' Lv wb =>
  rename_i a vs k b ws k'
  refine P.add_tuple e e' ?_ ?_ ?_ (by rw [List.size_toArray, List.size_toArray, rs.length, wb.length]; exact hz)
  .intro h; have := rs.length; have h' : vs = [] := by simpa using h
   rw [h'] at this; exact hx (List.length_eq_zero_iff.mp this.symm)
  .intro h; have := wb.length; have h' : ws = [] := by simpa using h
   rw [h'] at this; exact hy (List.length_eq_zero_iff.mp this.symm)
  .have z := S.push (s' := { s with heap := s.heap.push { cls := .type "tuple", data := .seq (vs.toArray ++ ws.toArray) } }) rfl rfl rfl
   refine .here (.tup (vs := vs ++ ws) (n := 0) ?_ (cJ S) ((rs.append wb).keep z.2.az)) z.1 z.2 q
   rw [Heap.get?_push_size _ rfl]; simp
def wQ {s : Shared} {a b : Addr} {vs ws : List Value} {k k' : Nat} {xs ys : List AV} (S : aM G Γ s) (e : s.heap.get? a = some (bW vs k)) (e' : s.heap.get? b = some (bW ws k')) (rs : ah (bc G Γ) s.heap vs xs) (wb : ah (bc G Γ) s.heap ws ys)
  (hz : xs.length + ys.length <= sizeLine) (q : ∀ a, Q (.raw (.ref a)) ((a, .list (xs ++ ys)) :: Γ)) : Tr G A X (binaryOp .Add (.ref a) (.ref b)) Rep Γ Q s :=
 concat_meets ⟨_, e, rfl⟩ ⟨_, e', rfl⟩ noFill_list_add seq_list_add PySem.F.slot_list_add PySem.F.entry_list_add (PySem.F.args_list_add_2 _ _)
  (PySem.AutoSeq1.list___add___list_list_0 a vs.toArray k b ws.toArray k' (by rw [List.size_toArray, List.size_toArray, rs.length, wb.length]; exact hz)) ⟨e, e', by
   have z := S.alloc (s' := { s with heap := s.heap.push { cls := .type "list", data := .seq (vs.toArray ++ ws.toArray) } }) (o' := .list (xs ++ ys)) rfl rfl rfl fun kk => ⟨vs ++ ws, 0, by rw [Heap.get?_push_size _ rfl]; simp, (rs.append wb).keep kk⟩
   exact .here (.raw _) z.1 z.2 (q _)⟩
inductive LstIs (Γ : aa) : AV -> List AV -> Prop
 | lst {xs} : LstIs Γ (.lst xs) xs
 | list {a xs R} : aC a (.list xs) Γ R -> LstIs Γ (.raw (.ref a)) xs
def LstIs.go {x : AV} {xs : List AV} (h : LstIs Γ x xs) (S : aM G Γ s) {v : Value} (r : Rep (bc G Γ) s.heap v x) : ∃ a vs k, v = .ref a /\ s.heap.get? a = some (bW vs k) /\ ah (bc G Γ) s.heap vs xs := by
 refine gF fun Z => ?_
 induction h with
 | lst => refine Z ?_; clear Z; have ri := r.inv; clear r; induction ri with | lst e nv rs => exact ⟨_, _, _, rfl, e, rs⟩
 | list p => refine Z ?_; clear Z; apply Rep.bX r; obtain ⟨vs, k, e, rs⟩ := S.at p; exact ⟨_, _, _, rfl, e, rs⟩
def WB.add_lists {x y : AV} {xs ys : List AV} (hx : LstIs Γ x xs) (hy : LstIs Γ y ys) (hz : xs.length + ys.length <= sizeLine) (q : ∀ a, Q (.raw (.ref a)) ((a, .list (xs ++ ys)) :: Γ)) : WB G A X (binaryOp .Add) Rep x y Γ Q := .mk fun s v w S rv rw => by
 obtain ⟨a, vs, k, rfl, e, rs⟩ := hx.go S rv
 obtain ⟨b, ws, k', rfl, e', wb⟩ := hy.go S rw
 exact wQ S e e' rs wb hz q
def WB.ez {x y : AV} {xs ys : List AV} (hx : LstIs Γ x xs) (hy : LstIs Γ y ys) (hz : xs.length + ys.length <= sizeLine) (q : Q (.lst (xs ++ ys)) Γ) : WB G A X (binaryOp .Add) Rep x y Γ Q := .mk fun s v w S rv rw =>
 Tr.frozen ((WB.add_lists (Q := fun v ae => ∃ a, v = .raw (.ref a) /\ ae = (a, .list (xs ++ ys)) :: Γ) hx hy hz fun a => ⟨a, rfl, rfl⟩).go s v w S rv rw) q
end
end
section
section
variable {prog : Program} {w : World} {A : Around} {E : Value -> Shared -> Prop} {s : Shared}
def qU (a n : Nat) : Builtin.Slice.sliceAdjust none (some (a : Int)) 1 (n : Int) = ((0 : Int), ((min a n : Nat) : Int)) := by
 unfold Builtin.Slice.sliceAdjust
 have h1 : ¬ ((1 : Int) < 0) := by tm_at "o"
 have h2 : ¬ ((a : Int) < 0) := by tm_at "o"
 skip
 congr 1
 tm_at "o"
def qV (n : Nat) : Builtin.Slice.slicePlaces 0 (n : Int) 1 = n := by
 unfold Builtin.Slice.slicePlaces
 have h1 : (1 : Int) > 0 := by tm_at "o"
 simp only [h1, if_true, Int.ediv_one]
 split <;> tm_at "o"
def jq {sl : Addr} {a n : Nat} {u : Tok} {Q : Int × Int × Nat -> Shared -> Prop} (hs : s.heap.IsSliceOf sl .none (.int a u) .none) (h : Q (0, 1, min a n) s) :
  wpAny (model prog w) A (Builtin.Slice.sliceApplied (.ref sl) (pure (n : Int))) Q E s := by
 k_dflt obtain ⟨os, eK, HE, wa⟩ := id hs
 skip
 refine wpAny_bind (wpAny_bind (wpAny_field eK wa (x := .none) rfl (wpAny_bind (wpAny_field eK wa (x := .int a u) rfl (wpAny_bind (wpAny_field eK wa (x := .none) rfl (wpAny_pure ?_)))))))
 refine wpAny_bind (slicePart_none ?_)
 show wpAny _ _ (if ((1 : Int) == 0) = true then _ else _) _ _ s
 rw [if_neg (by decide)]
 refine wpAny_bind (slicePart_none (wpAny_bind (slicePart_int (wpAny_bind (wpAny_pure ?_)))))
 show wpAny _ _ (match Builtin.Slice.sliceAdjust none (some (a : Int)) 1 (n : Int) with | (lo, hi) => pure (lo, (1 : Int), Builtin.Slice.slicePlaces lo hi 1)) _ _ s
 rw [qU a n]
 show wpAny _ _ (pure ((0 : Int), (1 : Int), Builtin.Slice.slicePlaces 0 ((min a n : Nat) : Int) 1)) _ _ s
 rw [qV]
 exact wpAny_pure h
def vc (xs : Array Value) (a : Nat) : ((List.range (min a xs.size)).filterMap fun (k : Nat) => xs[((0 : Int) + (k : Int) * 1).toNat]?).toArray = (xs.toList.take a).toArray := by
 have e : (fun (k : Nat) => xs[((0 : Int) + (k : Int) * 1).toNat]?) = fun k => xs[0 + k]? := by
  funext k
  have : ((0 : Int) + (k : Int) * 1).toNat = 0 + k := by tm_at "o"
  rw [this]
 refine e ▸ ?_
 have := pick_run xs 0 (min a xs.size)
 rw [List.filterMap_map] at this
 have e2 : ((fun x => xs[x]?) ∘ fun x => 0 + x) = fun k => xs[0 + k]? := rfl
 rw [e2] at this
 refine this ▸ List.drop_zero ▸ ?_
 congr 1
 exact (show min a xs.size = min a xs.toList.length from rfl) ▸ List.take_eq_take_min ▸ rfl
def iU {t sl : Addr} {items : Array Value} {a : Nat} {u : Tok} {Q : Value -> Shared -> Prop} (ht : s.heap.get? t = some { cls := .type "tuple", data := .seq items n }) (hs : s.heap.IsSliceOf sl .none (.int a u) .none)
  (h1 : items.size <= a -> Q (.ref t) s)
  (h : Q (.ref s.heap.objs.size) { s with heap := s.heap.push { cls := .type "tuple", data := .seq (items.toList.take a).toArray } })
  (vd : autoParam (items.size <= sizeLine) aS) : wpAny (model prog w) A (getItem (.ref t) (.ref sl)) Q E s := by
 have cL : IsTup s.heap t items := ⟨_, ht, rfl, n, rfl⟩
 have ug : sizeOk (.seq (items.toList.take a).toArray) := by
  show (items.toList.take a).toArray.size <= sizeLine
  rw [List.size_toArray, List.length_take, Array.length_toList]
  tm_at "o"
 k_dflt obtain ⟨os, eK, HE, wa⟩ := id hs
 have JH : s.TypeIs (.ref sl) "slice" := ⟨os, eK, HE⟩
 unfold getItem
 try with_reducible refine wpAny_holding ?_
 first | refine wpAny_bind (wpAny_pure ?_) | skip
 refine wpAny_bind (wpAny_sequenceKey cL.typeIs (by decide) ?_)
 refine wpAny_bind (wpAny_callSpecial?_slot (name := oS "__getitem__") cL.typeIs slot_tuple_getitem
  (wpAny_call_entry slot_tuple_getitem cL.typeIs entry_tuple_getitem ?_ (args_tuple_getitem _ _)))
 show wpAny _ _ (Builtin.Tuple.tupleItemsOf (.ref t) >>= _) _ _ s
 refine wpAny_bind (tupleItemsOf_ cL ?_)
 refine wpAny_bind (wpAny_typeOf JH ?_)
 rw [if_pos (by decide)]
 refine wpAny_bind (jq (n := items.size) hs ?_)
 show wpAny _ _ (if ((0 : Int) == 0 && (1 : Int) == 1 && (min a items.size) == items.size) = true then _ else _) _ _ s
 by_cases hle : items.size <= a
 .have : min a items.size = items.size := by tm_at "o"
  rw [this, if_pos (by simp)]
  unfold Builtin.Tuple.tupleIsExact
  refine wpAny_bind (wpAny_bind (wpAny_typeOf cL.typeIs (wpAny_pure ?_)))
  rw [if_pos (by rfl)]
  refine wpAny_bind (wpAny_rule ?_)
  first
   | exact wpAny_pure ⟨_, rfl, wpAny_pure (h1 hle)⟩
   | exact wpAny_bind (wpAny_pure ⟨_, rfl, wpAny_pure (h1 hle)⟩)
   | exact wpAny_bind (wpAny_pure (wpAny_pure ⟨_, rfl, wpAny_pure (h1 hle)⟩))
 .rw [if_neg (by simp; tm_at "o"), vc items a]
  first
   | exact wpAny_bind (m := Builtin.Tuple.tupleExact _) (wpAny_newObj_type (wpAny_pure ⟨_, rfl, wpAny_pure h⟩) ug)
   | exact wpAny_bind (m := Builtin.Tuple.tupleExact _) (wpAny_newObj_type (wpAny_bind (wpAny_pure (wpAny_pure ⟨_, rfl, wpAny_pure h⟩))) ug)
   | exact wpAny_bind (wpAny_bind (m := Builtin.Tuple.tupleExact _) (wpAny_newObj_type (wpAny_pure (wpAny_pure ⟨_, rfl, wpAny_pure h⟩)) ug))
   | exact wpAny_bind (wpAny_bind (m := Builtin.Tuple.tupleExact _) (wpAny_newObj_type (wpAny_pure ⟨_, rfl, wpAny_pure h⟩) ug))
end
inductive wR (Q : AV -> aa -> Prop) (i : AV) (Γ : aa) : AV -> Prop
 | mk {xs : List AV} (a : Nat) (e : i = .int a) (h1 : 1 <= a) (h2 : a <= xs.length) (hz : xs.length <= sizeLine) (q : Q (.tup (xs.drop a)) Γ) : wR Q i Γ (.tup xs)
inductive wU (Q : AV -> aa -> Prop) (i : AV) (Γ : aa) : AV -> Prop
 | mk {xs : List AV} (a : Nat) (e : i = .int a) (hz : xs.length <= sizeLine) (q : Q (.tup (xs.take a)) Γ) : wU Q i Γ (.tup xs)
inductive AE (Q : AV -> aa -> Prop) (i : AV) (Γ : aa) : AV -> Prop
 | mk {xs : List AV} (a : Nat) (e : i = .int a) (hz : xs.length <= sizeLine) (q : Q (.lst (xs.take a)) Γ) : AE Q i Γ (.lst xs)
section
variable {env : Env} {pos : Pos} {Γ ag ai R : aa} {s s' : Shared} {n : Nat} {Q : AV -> aa -> Prop}
def sW (e : Expr) : Prop := ∀ o r, letTemporaryGo e o r = pure ()
def WE.Bq {o lo : Expr} {p : Pos} (h : WE G A X env o Γ fun x ag => WE G A X env lo ag fun i ai => wR Q i ai x)
  (ht : autoParam (sW o) aI) : WE G A X env (.Subscript o (.Slice (some lo) Option.none Option.none p) pos) Γ Q := .mk fun s S =>
 Subscript_ ((h.go s S).seq fun v x ag ay r ax aG bk => wpAny_Slice (by
  rw [evalPart_some, evalPart_none]
  refine (bk.go ay ax).seq fun i iv ai aW ri bp bx zz => wpAny_pure (wpAny_pure ?_)
  obtain ⟨a, e2, h1, h2, hz, q⟩ := zz
  subst e2
  have r' := r.keep bx.az
  cases ri.inv with | int t =>
  cases r'.inv with | @tup b vs k e nv rs =>
  have cL : (aW.heap.push { cls := .type "slice", data := .fields #[.int a t, .none, .none] }).get? b = some (cj vs k) := Heap.get?_push_of_some _ e
  refine subscriptTail_ops (s := { aW with heap := aW.heap.push { cls := .type "slice", data := .fields #[.int a t, .none, .none] } }) (IsTup.of cL).typeIs slot_tuple_getitem.lookup
   (getItem_tuple_from (IsTup.of cL) (Heap.IsSliceOf.new ..) h1 (by rw [List.size_toArray, rs.length]; exact h2) ?_ (by rw [List.size_toArray, rs.length]; exact hz)) rfl (ht _)
  have z := bp.push (s' := { aW with heap := aW.heap.push { cls := .type "slice", data := .fields #[.int a t, .none, .none] } }) rfl rfl rfl
  have z2 := z.1.push (s' := { aW with heap := (aW.heap.push { cls := .type "slice", data := .fields #[.int a t, .none, .none] }).push { cls := .type "tuple", data := .seq (vs.toArray.toList.drop a).toArray } }) rfl rfl rfl
  exact ⟨.tup (xs.drop a), ai, .tup (vs := vs.drop a) (n := 0) (Heap.get?_push_size _ rfl) (cJ z.1) ((rs.drop a).keep (z.2.trans z2.2).az), z2.1, (aG.trans bx).trans (z.2.trans z2.2), q⟩))
def WE.Br {o lo : Expr} {p : Pos} (h : WE G A X env o Γ fun x ag => WE G A X env lo ag fun i ai => wU Q i ai x)
  (ht : autoParam (sW o) aI) : WE G A X env (.Subscript o (.Slice Option.none (some lo) Option.none p) pos) Γ Q := .mk fun s S =>
 Subscript_ ((h.go s S).seq fun v x ag ay r ax aG bk => wpAny_Slice (by
  rw [evalPart_some, evalPart_none]
  refine wpAny_pure ((bk.go ay ax).seq fun i iv ai aW ri bp bx zz => wpAny_pure ?_)
  obtain ⟨a, e2, hz, q⟩ := zz
  subst e2
  have r' := r.keep bx.az
  have ri := ri.inv; cases ri with | int t =>
  have ri := r'.inv; cases ri with | @tup b vs k e nv rs =>
  have z := bp.push (s' := { aW with heap := aW.heap.push { cls := .type "slice", data := .fields #[.none, .int a t, .none] } }) rfl rfl rfl
  have cL : (aW.heap.push { cls := .type "slice", data := .fields #[.none, .int a t, .none] }).get? b = some (cj vs k) := Heap.get?_push_of_some _ e
  refine subscriptTail_ops (s := { aW with heap := aW.heap.push { cls := .type "slice", data := .fields #[.none, .int a t, .none] } }) (IsTup.of cL).typeIs slot_tuple_getitem.lookup
   (iU cL (Heap.IsSliceOf.new ..) (fun hle => ?_) ?_ (by rw [List.size_toArray, rs.length]; exact hz)) rfl (ht _)
  .rw [List.size_toArray, rs.length] at hle
   rw [List.take_of_length_le hle] at q
   have k := (z.2.az) _ _ e nv
   exact ⟨.tup xs, ai, .tup k.1 k.2 (rs.keep z.2.az), z.1, (aG.trans bx).trans z.2, q⟩
  .have z2 := z.1.push (s' := { aW with heap := (aW.heap.push { cls := .type "slice", data := .fields #[.none, .int a t, .none] }).push { cls := .type "tuple", data := .seq (vs.toArray.toList.take a).toArray } }) rfl rfl rfl
   exact ⟨.tup (xs.take a), ai, .tup (vs := vs.take a) (n := 0) (Heap.get?_push_size _ rfl) (cJ z.1) ((rs.take a).keep (z.2.trans z2.2).az), z2.1, (aG.trans bx).trans (z.2.trans z2.2), q⟩))
end
end
section
set_option backward.match.sparseCases false
section
variable {V : Addr -> Prop} {h : Heap} {vs : List Value} {x y z : AV}
def ah.inv1 (r : ah V h vs [x]) : ∃ v, vs = [v] /\ Rep V h v x := by have ri := r.inv; clear r; cases ri with | cons a b => have ri := b.inv; clear b; cases ri with | nil => exact ⟨_, rfl, a⟩
def ah.inv2 (r : ah V h vs [x, y]) : ∃ v u, vs = [v, u] /\ Rep V h v x /\ Rep V h u y := by have ri := r.inv; cases ri with | cons a b => obtain ⟨u, e, q⟩ := b.inv1; subst e; exact ⟨_, _, rfl, a, q⟩
def ah.FR (r : ah V h vs [x, y, z]) : ∃ v u t, vs = [v, u, t] /\ Rep V h v x /\ Rep V h u y /\ Rep V h t z := by have ri := r.inv; clear r; cases ri with | cons a b => obtain ⟨u, t, e, q, c⟩ := b.inv2; subst e; exact ⟨_, _, _, rfl, a, q, c⟩
def ah.gQ {C : List Value -> Prop} (r : ah V h vs [x]) (k : ∀ v, Rep V h v x -> C [v]) : C vs := by obtain ⟨v, rfl, a⟩ := r.inv1; exact k v a
def ah.iM {C : List Value -> Prop} (r : ah V h vs [x, y]) (k : ∀ v u, Rep V h v x -> Rep V h u y -> C [v, u]) : C vs := by obtain ⟨v, u, rfl, a, b⟩ := r.inv2; exact k v u a b
def ah.Dd {C : List Value -> Prop} (r : ah V h vs [x, y, z]) (k : ∀ v u t, Rep V h v x -> Rep V h u y -> Rep V h t z -> C [v, u, t]) : C vs := by obtain ⟨v, u, t, rfl, a, b, c⟩ := r.FR; exact k v u t a b c
end
section
variable {env : Env} {pos : Pos} {Γ ag ai R : aa} {s s' : Shared} {n : Nat} {Q : AV -> aa -> Prop} {a : Addr}
theorem WM.list {name : Str} {id : String} {xs : List AV} {Q : Value -> List AV -> aa -> Prop} (slot : Slot "list" name id) (FT : typeOf (.builtin id) = pure (.type "method_descriptor")) (p : aC a (.list xs) Γ R) (q : Q (.builtin id) [.raw (.ref a)] Γ) :
  WM G A X name (.raw (.ref a)) Γ Q := .mk fun pl s v S r => by
 apply Rep.bX r
 k_dflt obtain ⟨vs, k, e, rs⟩ := S.at p
 exact getMethod_list_of slot FT (IsList.of e) ⟨_, e, rfl⟩ ⟨_, Γ, .one (.raw _), S, .refl, fun _ => .builtin, q⟩
theorem WM.append {xs : List AV} {Q : Value -> List AV -> aa -> Prop} (p : aC a (.list xs) Γ R) (q : Q (.builtin "list.append") [.raw (.ref a)] Γ) : WM G A X "append" (.raw (.ref a)) Γ Q := WM.list PySem.F.slot_list_append PySem.F.type_list_append p q
theorem WM.extend {xs : List AV} {Q : Value -> List AV -> aa -> Prop} (p : aC a (.list xs) Γ R) (q : Q (.builtin "list.extend") [.raw (.ref a)] Γ) : WM G A X "extend" (.raw (.ref a)) Γ Q := WM.list PySem.F.slot_list_extend PySem.F.type_list_extend p q
theorem WM.pop {xs : List AV} {Q : Value -> List AV -> aa -> Prop} (p : aC a (.list xs) Γ R) (q : Q (.builtin "list.pop") [.raw (.ref a)] Γ) : WM G A X "pop" (.raw (.ref a)) Γ Q := WM.list PySem.F.slot_list_pop PySem.F.type_list_pop p q
theorem WC.append {xs : List AV} {y : AV} (p : aC a (.list xs) Γ R) (hz : xs.length <= sizeLine) (q : Q (.raw .none) ((a, .list (xs ++ [y])) :: R)) : WC G A X (.builtin "list.append") [.raw (.ref a), y] Γ Q := .mk fun s vs S r => by
 apply ah.iM r; intro _ _ q1 ry; clear r; apply Rep.bX q1
 k_dflt obtain ⟨vs, k, e, rs⟩ := S.at p
 refine wpAny_list_append_plain ⟨k, e⟩ (fun h' ⟨k', hl⟩ hs => ?_) (by rw [List.size_toArray, rs.length]; exact hz)
 have z := S.change (s' := { s with heap := h' }) (o' := .list (xs ++ [y])) p hs rfl rfl fun kk => ⟨vs ++ [_], k', by rw [hl]; simp, (rs.keep kk).append (.one (ry.keep kk))⟩
 exact .here (.raw _) z.1 z.2 q
def qW {x : AV} {ys : List AV} (hx : cZ x = some ys \/ LstIs Γ x ys) (S : aM G Γ s) {v : Value} (r : Rep (bc G Γ) s.heap v x) : ∃ b ws k T, v = .ref b /\ (T = "list" \/ T = "tuple") /\ s.heap.get? b = some { cls := .type T, data := .seq ws.toArray k } /\ ah (bc G Γ) s.heap ws ys := by
 rcases hx with hx | hx
 .obtain ⟨b, ws, k, T, e, h, g, _, r⟩ := jn hx r; exact ⟨b, ws, k, T, e, h, g, r⟩
 .obtain ⟨b, ws, k, e, g, r⟩ := hx.go S r; exact ⟨b, ws, k, _, e, .inl rfl, g, r⟩
theorem WC.extend {xs ys : List AV} {y : AV} (p : aC a (.list xs) Γ R) (hy : cZ y = some ys \/ LstIs Γ y ys) (hz : xs.length + ys.length <= sizeLine) (q : Q (.raw .none) ((a, .list (xs ++ ys)) :: R)) : WC G A X (.builtin "list.extend") [.raw (.ref a), y] Γ Q := .mk fun s vs S r => by
 apply ah.iM r; intro _ _ q1 ry; clear r; apply Rep.bX q1
 obtain ⟨vs, k, e, rs⟩ := S.at p
 k_dflt obtain ⟨b, ws, k', T, rfl, hT, e', wb⟩ := qW hy S ry
 have yY : vs.toArray.size + ws.toArray.size <= sizeLine := by rw [List.size_toArray, List.size_toArray, rs.length, wb.length]; exact hz
 have fin : gv G Γ s.heap Rep Q (.none) { s with heap := s.heap.update a (Obj.mapSeq fun x => x ++ ws.toArray), toks := s.toks } := by
  have hc := mapSeq_app vs.toArray ws.toArray k none #[]
  have z := S.change (s' := { s with heap := s.heap.update a (Obj.mapSeq fun x => x ++ ws.toArray) }) (o' := .list (xs ++ ys)) p (Heap.SameBut.update ..) rfl rfl fun kk => by
   refine ⟨vs ++ ws, ((if ((vs.toArray ++ ws.toArray).size == vs.toArray.size) = true then k else k + 1)), ?_, (rs.keep kk).append (wb.keep kk)⟩
   show (s.heap.update a _).get? a = _
   rw [Heap.get?_update_self _ e (by rw [hc]; rfl), hc]
   simp only [List.append_toArray]
  exact ⟨.raw .none, _, .raw _, z.1, z.2, q⟩
 rcases hT with rfl | rfl
 .exact call_meets PySem.F.slot_list_extend ⟨_, e, rfl⟩ PySem.F.entry_list_extend (PySem.F.args_list_extend_2 _ _) (PySem.AutoSeq1.list_extend_list_list_0 a vs.toArray k b ws.toArray k' (extend_door yY) (Nat.le_trans (Nat.le_add_right _ _) yY) (by tm_at "o")) ⟨e, e', fin⟩
 .exact call_meets PySem.F.slot_list_extend ⟨_, e, rfl⟩ PySem.F.entry_list_extend (PySem.F.args_list_extend_2 _ _) (PySem.AutoSeq1.list_extend_list_tuple_0 a vs.toArray k b ws.toArray k' (extend_door yY) (Nat.le_trans (Nat.le_add_right _ _) yY) (by tm_at "o")) ⟨e, e', fin⟩
def qX {vs : List Value} {xs : List AV} {k j : Nat} {v : Value} {y : AV} (S : aM G Γ s) (p : aC a (.list xs) Γ R) (e : s.heap.get? a = some (bW vs k)) (hj : j < vs.length) (rv : Rep (bc G Γ) s.heap v y) (rs : ah (bc G Γ) s.heap (vs.eraseIdx j) (xs.eraseIdx j))
  (q : Q y ((a, .list (xs.eraseIdx j)) :: R)) : gv G Γ s.heap Rep Q v { s with heap := s.heap.update a (Obj.mapSeq fun xs => xs.eraseIdxIfInBounds j) } := by
 have hc := mapSeq_erase vs.toArray k j (by exact hj)
 have z := S.change (s' := { s with heap := s.heap.update a (Obj.mapSeq fun xs => xs.eraseIdxIfInBounds j) }) (o' := .list (xs.eraseIdx j)) p (Heap.SameBut.update ..) rfl rfl fun kk => by
  refine ⟨vs.eraseIdx j, k + 1, ?_, rs.keep kk⟩
  show (s.heap.update a _).get? a = _
  rw [Heap.get?_update_self _ e (by rw [hc]; rfl), hc]
 exact ⟨y, _, rv.keep z.2.az, z.1, z.2, q⟩
def ah.last {V : Addr -> Prop} {h : Heap} {vs : List Value} {ys : List AV} {y : AV} (r : ah V h vs (ys ++ [y])) : ∃ us v, vs = us ++ [v] /\ ah V h us ys /\ Rep V h v y := by
 obtain ⟨us, ws, rfl, r1, r2⟩ := r.split
 apply ah.gQ r2; intro _ q1; exact ⟨us, _, rfl, r1, q1⟩
def WC.wV {ys : List AV} {y : AV} (p : aC a (.list (ys ++ [y])) Γ R) (hz : ys.length + 1 <= sizeLine) (q : Q y ((a, .list ys) :: R)) : WC G A X (.builtin "list.pop") [.raw (.ref a)] Γ Q := .mk fun s vs S r => by
 apply ah.gQ r; intro _ q1; clear r; apply Rep.bX q1
 obtain ⟨vs, k, e, rs⟩ := S.at p
 k_dflt obtain ⟨us, v, rfl, r1, r2⟩ := rs.last
 have hl := r1.length
 have e1 : (us ++ [v]).toArray.size - 1 = us.length := by simp
 refine call_meets PySem.F.slot_list_pop ⟨_, e, rfl⟩ PySem.F.entry_list_pop (PySem.F.args_list_pop_1 _) (PySem.MeetsSeq.list_pop_last a (us ++ [v]).toArray k v (by rw [e1]; simp) (by simp; tm_at "o")) ⟨e, ?_⟩
 refine e1 ▸ ?_
 exact qX S p e (by simp) r2 (by rw [List.eraseIdx_append_of_length_le (Nat.le_refl _)]; rw [show us.length = ys.length from hl, List.eraseIdx_append_of_length_le (Nat.le_refl _)]; simpa using r1) (by
  rw [show us.length = ys.length from hl, List.eraseIdx_append_of_length_le (Nat.le_refl _)]; simpa using q)
def WC.ve {ys : List AV} {y : AV} (p : aC a (.list (y :: ys)) Γ R) (hz : ys.length + 1 <= sizeLine) (q : Q y ((a, .list ys) :: R)) : WC G A X (.builtin "list.pop") [.raw (.ref a), .int 0] Γ Q := .mk fun s vs S r => by
 apply ah.iM r; intro _ _ q1 ri; clear r; apply Rep.bX q1; apply Rep.dZ ri; intro t
 k_dflt obtain ⟨vs, k, e, rs⟩ := S.at p
 have ri := rs.inv; clear rs; cases ri with | cons r1 r2 =>
 have hl := r2.length
 refine call_meets PySem.F.slot_list_pop ⟨_, e, rfl⟩ PySem.F.entry_list_pop (PySem.F.args_list_pop_2 _ _) (PySem.MeetsSeq.list_pop_at a _ k 0 _ 0 _ (by decide) (by unfold seqIndex?; simp) (by skip; rfl) (by simp; tm_at "o")) ⟨e, ?_⟩
 exact qX S p e (by simp) r1 r2 q
theorem WM.join {x : Str} {Q : Value -> List AV -> aa -> Prop} (q : Q (.builtin "str.join") [.str x] Γ) : WM G A X "join" (.str x) Γ Q := .mk fun pl s v S r => by
 apply Rep.qN r; intro t
 exact PySem.GM.join ⟨_, Γ, .one (.str _ _), S, .refl, fun _ => .builtin, q⟩
noncomputable def strsOf : List AV -> Option (List Str)
 | [] => some []
 | .str x :: r => (strsOf r).map (x :: ·)
 | _ :: _ => none
def n6 {V : Addr -> Prop} {h : Heap} {xs : List AV} : ∀ {vs : List Value} {ts : List Str}, strsOf xs = some ts -> ah V h vs xs -> ∃ l : List (Str × Tok), vs = strValues l /\ l.map (·.1) = ts := by
 induction xs with
 | nil => intro vs ts e r; apply ah.nh r; obtain rfl := Option.some.inj e; exact ⟨[], rfl, rfl⟩
 | cons x xs ih =>
  intro vs ts e r
  apply ah.iK r; intro v vs r rs
  cases r with
  | str x t =>
   (dsimp only [strsOf] at e; simp only [Option.map_eq_some_iff] at e)
   obtain ⟨Lw, e, rfl⟩ := e
   obtain ⟨l, rfl, rfl⟩ := ih e rs
   exact ⟨(x, t) :: l, rfl, rfl⟩
  | _ => (dsimp only [strsOf] at e; simp at e)
theorem WC.join {x : Str} {y : AV} {ys : List AV} {ts : List Str} (hy : LstIs Γ y ys) (ht : strsOf ys = some ts) (hz : JoinOk x ts = true) (q : Q (.str (Str.join x ts)) Γ) : WC G A X (.builtin "str.join") [.str x, y] Γ Q := .mk fun s vs S r => by
 apply ah.iM r; intro _ _ q1 ry; clear r; apply Rep.qN q1; intro t
 k_dflt obtain ⟨b, ws, k, rfl, e, rs⟩ := hy.go S ry
 k_dflt obtain ⟨l, rfl, hl⟩ := n6 ht rs
 refine PySem.SC.join (IsList.of e) hl hz fun t' k => ?_
 refine (show Txt.join x ts = Str.join x ts from StrLaws.glued_eq_join x ts) ▸ ?_
 exact .here (.str _ _) (S.toks _) .refl q
end
end
section
noncomputable def bN : List (Str × AV) -> Str -> AV -> List (Str × AV)
 | [], k, y => [(k, y)]
 | (k', z) :: r, k, y => if k' = k then (k, y) :: r else (k', z) :: bN r k y
noncomputable def bH : List (Str × AV) -> Str -> Option AV
 | [], _ => none
 | (k', z) :: r, k => if k' = k then some z else bH r k
section
variable {V : Addr -> Prop} {h : Heap}
def qY {P : Params} {w : PySem.World} (hp : P = w.params) {prog : Program} : ∀ {es : List DictEntry} {ks : List Str}, cz P es ks -> Pairs (strKind prog w) es (ks.zip (es.map (·.val))) /\ ∀ e ∈ es, ∃ k, (strKind prog w).is k e.key = true /\ e.hash = (strKind prog w).hash k := by
 intro es ks s
 induction s with
 | nil => exact ⟨.nil, fun _ h => nomatch h⟩
 | @cons hs x t v es xs e s ih =>
  refine ⟨.cons (strKind_is prog w x t) rfl ih.1, fun e' he => ?_⟩
  rcases List.mem_cons.mp he with rfl | he
  .refine ⟨x, strKind_is prog w x t, ?_⟩
   show hs = hashStr w x
   rw [e, hp]; rfl
  .exact ih.2 e' he
theorem cz.length {P : Params} {es : List DictEntry} {ks : List Str} (s : cz P es ks) : es.length = ks.length := by
 induction s with
 | nil => rfl
 | cons _ _ ih => simp [ih]
def jr {a : Addr} {bZ : Array DictEntry} {k : Nat} {ks : List Str} (e : h.get? a = some { cls := .type "dict", data := .dict bZ k }) (s : cz G.w.params bZ.toList ks) (nd : ks.Nodup) :
  h.DictOf (strKind G.prog G.w) a (ks.zip (bZ.toList.map (·.val))) := by
 have z := qY (prog := G.prog) (w := G.w) rfl s
 refine ⟨_, bZ, k, e, ⟨rfl, rfl, rfl⟩, rfl, fun e he => z.2 e (by simpa using he), z.1, ?_⟩
 rw [List.map_fst_zip (by rw [List.length_map, s.length]; exact Nat.le_refl _)]
 exact nd
def qZ {prog : Program} {w : PySem.World} : ∀ {es : List DictEntry} {kvs : List (Str × Value)}, Pairs (strKind prog w) es kvs -> (∀ e ∈ es, ∃ k, (strKind prog w).is k e.key = true /\ e.hash = (strKind prog w).hash k) -> cz w.params es (kvs.map (·.1)) /\ es.map (·.val) = kvs.map (·.2) := by
 intro es kvs p
 induction p with
 | nil => intro _; exact ⟨.nil, rfl⟩
 | @cons e kv es kvs h1 h2 _ ih =>
  intro hk
  have z := ih fun e' he => hk e' (.tail _ he)
  obtain ⟨k', q1, q2⟩ := hk e (.head _)
  obtain rfl := (strKind prog w).inj _ _ _ h1 q1
  obtain ⟨hs, key, v⟩ := e
  obtain ⟨t, rfl⟩ := Value.isStrOf_shape h1
  refine ⟨.cons q2 z.1, ?_⟩
  show v :: _ = _
  rw [z.2, List.map_cons, <- h2]
def ig {a : Addr} {kvs : List (Str × Value)} (d : h.DictOf (strKind G.prog G.w) a kvs) : ∃ bZ k, h.get? a = some { cls := .type "dict", data := .dict bZ k } /\ cz G.w.params bZ.toList (kvs.map (·.1)) /\ bZ.toList.map (·.val) = kvs.map (·.2) /\ (kvs.map (·.1)).Nodup := by
 k_dflt obtain ⟨o, bZ, k, e, ⟨h1, h2, h3⟩, hd, hk, hp, nd⟩ := d
 obtain ⟨oc, od, odd, ng⟩ := o
 dsimp only at h1 h2 h3 hd
 subst h1; subst h2; subst h3; subst hd
 have z := qZ hp fun e he => hk e (by simpa using he)
 exact ⟨bZ, k, e, z.1, z.2, nd⟩
def lS : ∀ {es : List (Str × AV)} {vs : List Value}, ah V h vs (es.map (·.2)) -> ∀ k, match bH es k with
  | some x => ∃ v, valueAt ((es.map (·.1)).zip vs) k = some v /\ Rep V h v x
  | none => valueAt ((es.map (·.1)).zip vs) k = none := by
 intro es; induction es with
 | nil => intro _ _ k; rfl
 | cons p r ih =>
  intro Lx r0 k
  obtain ⟨k', z⟩ := p
  cases r0.inv with | @cons v vs rv rs =>
  dsimp only [bH]
  by_cases hk : k' = k
  .rw [if_pos hk]
   exact ⟨v, by simp [valueAt, hk], rv⟩
  .rw [if_neg hk]
   have ih := ih rs k
   have e : valueAt ((((k', z) :: r).map (·.1)).zip (v :: vs)) k = valueAt ((r.map (·.1)).zip vs) k := by simp [valueAt, hk]
   refine e ▸ ?_
   exact ih
def fm : ∀ {es : List (Str × AV)} {k : Str} {y : AV}, (bN es k y).map (·.1) = if k ∈ es.map (·.1) then es.map (·.1) else es.map (·.1) ++ [k] := by
 intro es; induction es with
 | nil => intro k y; rfl
 | cons p r ih =>
  intro k y
  obtain ⟨k', z⟩ := p
  dsimp only [bN]
  by_cases hk : k' = k
  .subst hk; simp
  .rw [if_neg hk, List.map_cons, ih]
   by_cases hm : k ∈ r.map (·.1)
   .rw [if_pos hm, if_pos (by simpa using .inr (by simpa using hm))]; rfl
   .rw [if_neg hm, if_neg (by
     intro q
     rcases List.mem_cons.mp q with q | q
     .exact hk q.symm
     .exact hm q)]; rfl
def lT {k : Str} {v : Value} {y : AV} (rv : Rep V h v y) {es : List (Str × AV)} : ∀ {vs : List Value}, (es.map (·.1)).Nodup -> ah V h vs (es.map (·.2)) ->
  (stored ((es.map (·.1)).zip vs) k v).map (·.1) = (bN es k y).map (·.1) /\ ah V h ((stored ((es.map (·.1)).zip vs) k v).map (·.2)) ((bN es k y).map (·.2)) := by
 induction es with
 | nil => intro vs _ r; apply ah.nh r; exact ⟨rfl, .one rv⟩
 | cons p r ih =>
  obtain ⟨k', z⟩ := p
  intro vs nd rr
  apply ah.iK rr; intro u vs ru rs
  have dg := List.nodup_cons.mp nd
  have ih := ih dg.2 rs
  have hl : (r.map (·.1)).length = vs.length := by rw [rs.length]; simp
  dsimp only [bN]
  by_cases hk : k' = k
  .subst hk
   rw [if_pos rfl]
   have e : stored ((((k', z) :: r).map (·.1)).zip (u :: vs)) k' v = (k', v) :: (r.map (·.1)).zip vs := by
    unfold stored
    simp only [List.map_cons, List.zip_cons_cons, List.any_cons, decide_true, Bool.true_or, if_true]
    congr 1
    refine map_store_of_not_mem _ _ _ ?_
    rw [List.map_fst_zip (Nat.le_of_eq hl)]
    exact dg.1
   rw [e]
   refine ⟨?_, ?_⟩
   .show k' :: _ = k' :: _
    rw [List.map_fst_zip (Nat.le_of_eq hl)]
   .refine .cons rv ?_
    rw [List.map_snd_zip (Nat.le_of_eq hl.symm)]
    exact rs
  .refine (if_neg hk) ▸ ?_
   have e : stored ((((k', z) :: r).map (·.1)).zip (u :: vs)) k v = (k', u) :: stored ((r.map (·.1)).zip vs) k v := by
    unfold stored
    simp only [List.map_cons, List.zip_cons_cons, List.any_cons, hk, decide_false, Bool.false_or, if_false]
    split <;> simp
   rw [e]
   exact ⟨by simp only [List.map_cons, ih.1], .cons ru ih.2⟩
end
inductive y6 (P : Params) (es : List (Str × AV)) (V : Addr -> Prop) (h : Heap) (v : Value) : Prop
 | mk (a : Addr) (bZ : Array DictEntry) (k : Nat) (e : v = .ref a) (hs : (a == sysModules) = false) (eo : h.get? a = some { cls := .type "dict", data := .dict bZ k }) (nv : ¬ V a) (sk : cz P bZ.toList (es.map (·.1))) (rs : ah V h (bZ.toList.map (·.val)) (es.map (·.2))) (nd : (es.map (·.1)).Nodup)
noncomputable def ar (P : Params) (es : List (Str × AV)) : AV := .dS {
 P := y6 P es
 ref := fun V h v z => (by induction z with | mk a _ _ e => exact ⟨a, e⟩)
 keep := fun V V' h h' v k z => (by induction z with | mk a bZ n e hs eo nv sk rs nd => exact ⟨a, bZ, n, e, hs, (k _ _ eo nv).1, (k _ _ eo nv).2, sk, rs.keep k, nd⟩)}
inductive fo (G : Base) (Γ : aa) : AV -> List (Str × AV) -> Prop
 | own {a es R} : aC a (.bj es) Γ R -> fo G Γ (.raw (.ref a)) es
 | d8 {es} : fo G Γ (ar G.w.params es) es
section
variable {env : Env} {pos : Pos} {Γ ag ai R : aa} {s s' : Shared} {n : Nat} {Q : AV -> aa -> Prop} {a : Addr} {es : List (Str × AV)}
def fM (S : aM G Γ s) : (s.heap.objs.size == sysModules) = false := by
 k_dflt obtain ⟨o, _, _, e, _⟩ := G.Ba
 have := Heap.lt_size (S.keep _ _ e G.yS)
 have h1 : mainGlobals = 3 := rfl
 have h2 : sysModules = 1 := rfl
 refine beq_eq_false_iff_ne.mpr fun q => ?_
 rw [q, h1, h2] at this
 exact absurd this (by decide)
def fo.go {x : AV} (h : fo G Γ x es) (S : aM G Γ s) {v : Value} (r : Rep (bc G Γ) s.heap v x) : ∃ a vs, v = .ref a /\ (a == sysModules) = false /\ s.heap.DictOf (strKind G.prog G.w) a ((es.map (·.1)).zip vs) /\ ah (bc G Γ) s.heap vs (es.map (·.2)) := by
 refine gF fun Z => ?_
 induction h with
 | own p =>
  refine Z ?_; clear Z
  apply Rep.bX r
  k_dflt obtain ⟨ns, bZ, k, e, sk, rs, nd⟩ := S.at p
  exact ⟨_, _, rfl, ns, jr e sk nd, rs⟩
 | d8 =>
  refine Z ?_; clear Z
  have ri := r.inv; clear r; induction ri with
  | dS q =>
   k_dflt obtain ⟨a, bZ, k, rfl, hs, e, nv, sk, rs, nd⟩ := q
   exact ⟨_, _, rfl, hs, jr e sk nd, rs⟩
set_option tactic.hygienic true in
set_option tactic.hygienic true in
def WB.iV {x : AV} {k : Str} (h : fo G Γ x es) (q : Q (.raw (.bool (!(bH es k).isSome))) Γ) : WB G A X (compareOp .NotIn) Rep (.str k) x Γ Q := .mk fun s v w S rv rw => by
 obtain ⟨a, vs, rfl, hs, hd, rs⟩ := h.go S rw
 cases rv.inv
 rename_i t
 refine wpAny_notIn_of (knd := strKind G.prog G.w) (strKind_is _ _ k t) hs hd.mapOf ?_
 have z := lS rs k
 have e : (valueAt ((es.map (·.1)).zip vs) k).isSome = (bH es k).isSome := by
  cases hg : bH es k with
  | none => rw [hg] at z; rw [z]; rfl
  | some x => rw [hg] at z; obtain ⟨v, e, _⟩ := z; rw [e]; rfl
 rw [e]
 exact .here (.raw _) (S.toks _) .refl q
set_option tactic.hygienic true in
def WB.item_dict {o i : Expr} {x y : AV} {k : Str} (h : fo G Γ x es) (hk : bH es k = some y) (q : Q y Γ) (hi : autoParam (bS i = true) aR) : WB G A X (subscriptTail o i) Rep x (.str k) Γ Q := .mk fun s v w S rv rw => by
 obtain ⟨a, vs, rfl, hs, hd, rs⟩ := h.go S rv
 have ri := rw.inv; clear rw; induction ri
 rename_i t
 have z := lS rs k
 rw [hk] at z
 obtain ⟨v, e, C7⟩ := z
 exact tail_any hd.mapOf.typeIs slot_dict_getitem.lookup (wpAny_getItem_of (knd := strKind G.prog G.w) (strKind_is _ _ k t) hd.mapOf e (.here C7 (S.toks _) .refl q)) (bT hi)
theorem WM.dict {name : Str} {id : String} {x : AV} {Q : Value -> List AV -> aa -> Prop} (slot : Slot "dict" name id) (FT : typeOf (.builtin id) = pure (.type "method_descriptor")) (h : fo G Γ x es) (q : Q (.builtin id) [x] Γ) :
  WM G A X name x Γ Q := .mk fun pl s v S r => by
 k_dflt obtain ⟨a, vs, rfl, hs, hd, rs⟩ := h.go S r
 have u7 := hd
 k_dflt obtain ⟨o, bZ, k, e, hx, _⟩ := u7
 exact getMethod_builtin hd.mapOf.typeIs PySem.F.plainAttrs_dict slot FT (fun a e' => by cases e'; exact ⟨o, e, hx.2.1⟩) ⟨_, Γ, .one r, S, .refl, fun _ => .builtin, q⟩
theorem WM.get {x : AV} {Q : Value -> List AV -> aa -> Prop} (h : fo G Γ x es) (q : Q (.builtin "dict.get") [x] Γ) : WM G A X "get" x Γ Q := WM.dict PySem.F.slot_dict_get PySem.F.type_dict_get h q
set_option tactic.hygienic true in
def WC.Bs {x y : AV} {k : Str} (h : fo G Γ x es) (q : Q ((bH es k).getD y) Γ) : WC G A X (.builtin "dict.get") [x, .str k, y] Γ Q := .mk fun s vs S r => by
 apply ah.Dd r; intro v u t r1 r2 r3
 obtain ⟨a, vs, rfl, hs, hd, rs⟩ := h.go S r1
 have ri := r2.inv; clear r2; induction ri
 rename_i tk
 refine call_meetsIn PySem.F.slot_dict_get hd.mapOf.typeIs PySem.F.entry_dict_get (PySem.F.args_dict_get_3 _ _ _) (meets_dict_get_default (strKind G.prog G.w) a (strKind_is _ _ k tk) hs t) ⟨_, hd.mapOf, ?_⟩
 have z := lS rs k
 cases hg : bH es k with
 | none =>
  rw [hg] at z q
  rw [z]
  exact .here r3 (S.toks _) .refl q
 | some x =>
  rw [hg] at z q
  obtain ⟨v, e, rv⟩ := z
  refine e ▸ ?_
  exact .here rv (S.toks _) .refl q
def WC.len_dict {x : AV} (h : fo G Γ x es) (hz : es.length <= sizeLine) (q : Q (.int es.length) Γ) : WC G A X (.builtin "len") [x] Γ Q := .mk fun s vs S r => by
 apply ah.gQ r; intro v r1
 k_dflt obtain ⟨a, vs, rfl, hs, hd, rs⟩ := h.go S r1
 have e : ((es.map (·.1)).zip vs).length = es.length := by
  have := rs.length
  rw [List.length_zip, this]; simp
 refine call_len_dict hs hd (by rw [e]; exact lz hz) ?_
 rw [e]
 exact .here (.int _ _) (S.toks _) .refl q
end
end
section
def short {n : Nat} (h : Nat.ble n 64 = true) : n <= sizeLine := Nat.le_trans (Nat.le_of_ble_eq_true h) (by decide)
section
variable {env : Env} {pos : Pos} {names aB : List (Str × NameKind)} {cl cN : List (Str × Addr)} {Γ ag ai R : aa} {s s' : Shared} {n : Nat} {Q : AV -> aa -> Prop} {a : Addr} {L : Addr}
 {f : Addr} {oc : Value} {od : Option Addr} {ng : Array (Option Value)} {name qual : Str} {params : Arguments} {body : List Stmt} {scope : Scope} {dV kV doc pm cV ct : Value} {an : Option Addr} {m cs : List (Str × Option AV)} {p1 p2 p3 p4 p5 : Str} {x1 x2 x3 x4 x5 : AV}
def WB.Cw {x : AV} (h : x.isNone = false) (q : Q (.raw (.bool false)) Γ) : WB G A X (compareOp .Is) Rep x (.raw .none) Γ Q := WB.is_none (by rw [h]; exact q)
def WB.Cx {x : AV} (h : x.isNone = true) (q : Q (.raw (.bool true)) Γ) : WB G A X (compareOp .Is) Rep x (.raw .none) Γ Q := WB.is_none (by rw [h]; exact q)
def WB.y7 {x : AV} (h : x.isNone = false) (q : Q (.raw (.bool true)) Γ) : WB G A X (compareOp .IsNot) Rep x (.raw .none) Γ Q := WB.isNot_none (by rw [h]; exact q)
def WB.y8 {x : AV} (h : x.isNone = true) (q : Q (.raw (.bool false)) Γ) : WB G A X (compareOp .IsNot) Rep x (.raw .none) Γ Q := WB.isNot_none (by rw [h]; exact q)
def WT.not' {e : Expr} {Γ : aa} {Q : Bool -> aa -> Prop} (h : WT G A X env e Γ (Ff Q)) : WT G A X env (.UnaryOp .Not e pos) Γ Q :=
 WT.not (.mk fun s S => (h.go s S).mono fun b ag q => by induction b <;> exact q)
def WB.ij {o i : Expr} {xs : List AV} {k : Int} {x : AV} (h0 : 0 <= k) (Aw : k < 2 ^ 63) (hx : xs[k.toNat]? = some x) (q : Q x Γ) (hi : autoParam (bS i = true) aR) : WB G A X (subscriptTail o i) Rep (.lst xs) (.int k) Γ Q := by
 obtain ⟨j, rfl⟩ := Int.eq_ofNat_of_zero_le h0
 exact WB.wx (by tm_at "o") hx q hi
def WB.sX {o i : Expr} {xs : List AV} {k : Int} {x : AV} (p : aC a (.list xs) Γ R) (h0 : 0 <= k) (Aw : k < 2 ^ 63) (hx : xs[k.toNat]? = some x) (q : Q x Γ) (hi : autoParam (bS i = true) aR) : WB G A X (subscriptTail o i) Rep (.raw (.ref a)) (.int k) Γ Q := by
 obtain ⟨j, rfl⟩ := Int.eq_ofNat_of_zero_le h0
 exact WB.item_list p (by tm_at "o") hx q hi
def WC.def0
  (hK : G.K.lookup f = some ⟨oc, od, .func (fnOf name qual params body scope dV kV doc pm an cV ct), ng⟩) (gG : codeIn G.K cV qual = true) (hR : aj A (n + 1))
  (hb : ∀ s, aM G Γ s -> BindsTo s (fnOf name qual params body scope dV kV doc pm an cV ct) ⟨[], []⟩ []) (hs : bz scope.names = true) (l : Lay scope.names [] m cs)
  (h : ∀ L env A' X', aA env scope.names L (bD (L + 1) cs) -> aj A' n -> WS G A' X' env body (aE (L + 1) cs ++ (L, .ns m) :: Γ) fun fl ae => Fin G Q (iH fl) ae)
  (iS : autoParam (scope.isCoroutine = false) aR) (cW : autoParam (scope.isGenerator = false) aR) (hk : autoParam (scope.kind = .function) aR) : WC G A X (.ref f) [] Γ Q :=
 WC.def (ns := []) (ys := []) (ds := []) hK gG hR (fun s S => hb s S) (fun _ _ => .nil) rfl hs l h iS cW hk
def WC.def1
  (hK : G.K.lookup f = some ⟨oc, od, .func (fnOf name qual params body scope dV kV doc pm an cV ct), ng⟩) (gG : codeIn G.K cV qual = true) (hp : params.args.map (·.arg) = [p1]) (hR : aj A (n + 1))
  (hb : ∀ s v1, aM G Γ s -> BindsTo s (fnOf name qual params body scope dV kV doc pm an cV ct) ⟨[v1], []⟩ [(p1, v1)]) (hs : bz scope.names = true) (l : Lay scope.names [(p1, x1)] m cs)
  (h : ∀ L env A' X', aA env scope.names L (bD (L + 1) cs) -> aj A' n -> WS G A' X' env body (aE (L + 1) cs ++ (L, .ns m) :: Γ) fun fl ae => Fin G Q (iH fl) ae)
  (iS : autoParam (scope.isCoroutine = false) aR) (cW : autoParam (scope.isGenerator = false) aR) (hk : autoParam (scope.kind = .function) aR) : WC G A X (.ref f) [x1] Γ Q :=
 WC.def (ns := [p1]) (ys := []) (ds := []) hK gG hR (fun s S v1 => hb s v1 S) (fun _ _ => .nil) rfl hs l h iS cW hk
def WC.def2
  (hK : G.K.lookup f = some ⟨oc, od, .func (fnOf name qual params body scope dV kV doc pm an cV ct), ng⟩) (gG : codeIn G.K cV qual = true) (hp : params.args.map (·.arg) = [p1, p2]) (hR : aj A (n + 1))
  (hb : ∀ s v1 v2, aM G Γ s -> BindsTo s (fnOf name qual params body scope dV kV doc pm an cV ct) ⟨[v1, v2], []⟩ [(p1, v1), (p2, v2)]) (hs : bz scope.names = true) (l : Lay scope.names [(p1, x1), (p2, x2)] m cs)
  (h : ∀ L env A' X', aA env scope.names L (bD (L + 1) cs) -> aj A' n -> WS G A' X' env body (aE (L + 1) cs ++ (L, .ns m) :: Γ) fun fl ae => Fin G Q (iH fl) ae)
  (iS : autoParam (scope.isCoroutine = false) aR) (cW : autoParam (scope.isGenerator = false) aR) (hk : autoParam (scope.kind = .function) aR) : WC G A X (.ref f) [x1, x2] Γ Q :=
 WC.def (ns := [p1, p2]) (ys := []) (ds := []) hK gG hR (fun s S v1 v2 => hb s v1 v2 S) (fun _ _ => .nil) rfl hs l h iS cW hk
def WC.def3
  (hK : G.K.lookup f = some ⟨oc, od, .func (fnOf name qual params body scope dV kV doc pm an cV ct), ng⟩) (gG : codeIn G.K cV qual = true) (hp : params.args.map (·.arg) = [p1, p2, p3]) (hR : aj A (n + 1))
  (hb : ∀ s v1 v2 v3, aM G Γ s -> BindsTo s (fnOf name qual params body scope dV kV doc pm an cV ct) ⟨[v1, v2, v3], []⟩ [(p1, v1), (p2, v2), (p3, v3)]) (hs : bz scope.names = true) (l : Lay scope.names [(p1, x1), (p2, x2), (p3, x3)] m cs)
  (h : ∀ L env A' X', aA env scope.names L (bD (L + 1) cs) -> aj A' n -> WS G A' X' env body (aE (L + 1) cs ++ (L, .ns m) :: Γ) fun fl ae => Fin G Q (iH fl) ae)
  (iS : autoParam (scope.isCoroutine = false) aR) (cW : autoParam (scope.isGenerator = false) aR) (hk : autoParam (scope.kind = .function) aR) : WC G A X (.ref f) [x1, x2, x3] Γ Q :=
 WC.def (ns := [p1, p2, p3]) (ys := []) (ds := []) hK gG hR (fun s S v1 v2 v3 => hb s v1 v2 v3 S) (fun _ _ => .nil) rfl hs l h iS cW hk
def WC.def4
  (hK : G.K.lookup f = some ⟨oc, od, .func (fnOf name qual params body scope dV kV doc pm an cV ct), ng⟩) (gG : codeIn G.K cV qual = true) (hp : params.args.map (·.arg) = [p1, p2, p3, p4]) (hR : aj A (n + 1))
  (hb : ∀ s v1 v2 v3 v4, aM G Γ s -> BindsTo s (fnOf name qual params body scope dV kV doc pm an cV ct) ⟨[v1, v2, v3, v4], []⟩ [(p1, v1), (p2, v2), (p3, v3), (p4, v4)]) (hs : bz scope.names = true) (l : Lay scope.names [(p1, x1), (p2, x2), (p3, x3), (p4, x4)] m cs)
  (h : ∀ L env A' X', aA env scope.names L (bD (L + 1) cs) -> aj A' n -> WS G A' X' env body (aE (L + 1) cs ++ (L, .ns m) :: Γ) fun fl ae => Fin G Q (iH fl) ae)
  (iS : autoParam (scope.isCoroutine = false) aR) (cW : autoParam (scope.isGenerator = false) aR) (hk : autoParam (scope.kind = .function) aR) : WC G A X (.ref f) [x1, x2, x3, x4] Γ Q :=
 WC.def (ns := [p1, p2, p3, p4]) (ys := []) (ds := []) hK gG hR (fun s S v1 v2 v3 v4 => hb s v1 v2 v3 v4 S) (fun _ _ => .nil) rfl hs l h iS cW hk
inductive pE (D C : Addr) (ms : List Str) (acc : List AV) (ai it pC : aa) : Prop
 | mk {m : List (Str × Option AV)} (w : ao pC (it ++ (D, .list acc) :: (C, .ns m) :: ai)) (hm : m.map (·.1) = ms)
structure jZ (D C : Addr) (ms : List Str) (acc : List AV) (ai it : aa) (y y' : AV) (pC : aa) : Prop where
 e : y' = y
 t : pE D C ms acc ai it pC
def pE.one {D C I : Addr} {ms : List Str} {acc : List AV} {ai pC : aa} {o : bG} {m : List (Str × Option AV)} (w : ao pC ((I, o) :: (D, .list acc) :: (C, .ns m) :: ai)) (hm : m.map (·.1) = ms) : pE D C ms acc ai [(I, o)] pC := .mk w hm
def jZ.one {D C I : Addr} {ms : List Str} {acc : List AV} {ai pC : aa} {o : bG} {m : List (Str × Option AV)} {y y' : AV} (e : y' = y) (w : ao pC ((I, o) :: (D, .list acc) :: (C, .ns m) :: ai)) (hm : m.map (·.1) = ms) : jZ D C ms acc ai [(I, o)] y y' pC := ⟨e, .mk w hm⟩
def jZ.two {D C I J : Addr} {ms : List Str} {acc : List AV} {ai pC : aa} {o o' : bG} {m : List (Str × Option AV)} {y y' : AV} (e : y' = y) (w : ao pC ((I, o) :: (J, o') :: (D, .list acc) :: (C, .ns m) :: ai)) (hm : m.map (·.1) = ms) : jZ D C ms acc ai [(I, o), (J, o')] y y' pC := ⟨e, .mk w hm⟩
def uh (G : Base) (A : Around) (X' : Value -> Shared -> Prop) (aF : Env) (target elt : Expr) (ms : List Str) (D C : Addr) (y : AV) (acc : List AV) (x : AV) (ai it : aa) : Prop :=
 WA G A X' aF target x (it ++ (D, .list acc) :: (C, .ns (blank ms)) :: ai) fun fJ => WE G A X' aF elt fJ (jZ D C ms acc ai it y)
inductive aL (α : Type) (G : Base) (A : Around) (k : Nat) (ms : List Str) (aB : List (Str × NameKind)) (cN : List (Str × Addr)) (target elt : Expr) (Q : List AV -> aa -> Prop) (iv : AV) (ag : aa) : Prop
 | fn {ts : List α} {e e' : α -> AV} {ai : aa} (hw : au G A target k iv ag (ts.map e) ai) (hz : ts.length <= sizeLine)
  (ht : ∀ X' aF D C acc, aA aF aB C cN -> ∀ t ∈ ts, Each k fun it => uh G A X' aF target elt ms D C (e' t) acc (e t) ai it) (q : Q (ts.map e') ai)
inductive q6 (α : Type) (G : Base) (A : Around) (k : Nat) (ms : List Str) (aB : List (Str × NameKind)) (cN : List (Str × Addr)) (target elt : Expr) (Q : List AV -> aa -> Prop) (acc rest : List AV) (ae : aa) : Prop
 | mk (ts : List α) (e e' : α -> AV) (er : rest = ts.map e)
  (ht : ∀ X' aF D C acc, aA aF aB C cN -> ∀ t ∈ ts, Each k fun it => uh G A X' aF target elt ms D C (e' t) acc (e t) ae it) (q : Q (acc ++ ts.map e') ae)
section
variable {α : Type} {k : Nat} {ms : List Str} {target elt : Expr} {Q : List AV -> aa -> Prop} {iv : AV}
def aL.start (h : aL α G A k ms aB cN target elt Q iv ag) : pB G A target k (q6 α G A k ms aB cN target elt Q) iv ag := by
 induction h with | @fn ts e e' ai hw hz ht q => exact .mk hw (by rw [List.length_map]; exact hz) ⟨ts, e, e', rfl, ht, q⟩
theorem q6.turn {X' : Value -> Shared -> Prop} {aF : Env} {D C : Addr} {acc rest : List AV} {x : AV} {ae : aa} (dC : aA aF aB C cN) (h : q6 α G A k ms aB cN target elt Q acc (x :: rest) ae) :
  Each k fun it => ji G A X' aF target elt [] ms D C (q6 α G A k ms aB cN target elt Q) acc x rest ae it := by
 obtain ⟨ts, e, e', er, ht, q⟩ := h
 cases ts with
 | nil => contradiction
 | cons t ts =>
  obtain ⟨rfl, rfl⟩ := List.cons.inj er
  exact (ht X' aF D C acc dC t (.head _)).imp fun it hm => .mk fun s v S r => (WA.go hm s v S r).mono fun _ fJ ha => .nil (.mk fun s S => (ha.go s S).mono fun y pC z => by
   obtain ⟨ey, hm, w⟩ := z
   exact ⟨ae, _, w, hm, ts, e, e', rfl, fun X' aF D C acc dC t h => ht X' aF D C acc dC t (.tail _ h), by rw [ey, List.append_assoc]; exact q⟩)
theorem q6.fin {acc : List AV} {ae : aa} (h : q6 α G A k ms aB cN target elt Q acc [] ae) : Q acc ae := by
 obtain ⟨ts, e, e', er, ht, q⟩ := h
 induction ts with
 | nil => refine (List.append_nil acc) ▸ ?_; exact q
 | cons => contradiction
end
def WE.aP (α : Type) (k : Nat) (ms : List Str) (aB : List (Str × NameKind)) (cN : List (Str × Addr)) {target elt iter : Expr} {scope : Scope} {Q : AV -> aa -> Prop} (ok : aA env names L cl)
  (hn : jj names scope.names = aB) (hs : bz aB = true) (ud : (scope.names.all fun x => x.2 != .cell) = true) (len : iT cl scope.names [] cN) (va : (cN.map (·.1)).Nodup) (wM : ms.Nodup)
  (h : WE G A X env iter Γ (aL α G A k ms aB cN target elt fun ys => Q (.lst ys)))
  (hk : autoParam (scope.kind = .function) aR)
  (hf : autoParam (∀ x, foldedSetIterable iter env x = pure x) aJ) : WE G A X env (.ListComp elt [⟨target, iter, [], 0⟩] scope pos) Γ Q :=
 WE.jm k ms aB cN ok hn hs ud len va wM (q6 α G A k ms aB cN target elt fun ys => Q (.lst ys)) (.mk fun s S => (h.go s S).mono fun iv ag hm => hm.start)
  (fun X' aF D C acc x rest ae dC hI => hI.turn dC) (fun acc ae hI => hI.fin) hk hf
def W1.aP (α : Type) (k : Nat) (ms : List Str) (aB : List (Str × NameKind)) (cN : List (Str × Addr)) {target elt iter : Expr} {scope : Scope} {y : Str} {py p' : Pos} {Q : aN -> aa -> Prop} (ok : aA env names L cl)
  (hn : jj names scope.names = aB) (hs : bz aB = true) (ud : (scope.names.all fun x => x.2 != .cell) = true) (len : iT cl scope.names [] cN) (va : (cN.map (·.1)).Nodup) (wM : ms.Nodup)
  (hy : (y, .local) ∈ names) (FQ : (py.line == pos.line && !(scope.names.any fun (n, k) => n == y && (k == .local || k == .cell))) = true)
  (h : WE G A X env iter Γ (aL α G A k ms aB cN target elt fun ys => jg L y (.lst ys) (Q .next)))
  (hk : autoParam (scope.kind = .function) aR)
  (hf : autoParam (∀ x, foldedSetIterable iter env x = pure x) aJ) : W1 G A X env (.Assign [.Name y py] (.ListComp elt [⟨target, iter, [], 0⟩] scope pos) p') Γ Q :=
 W1.kF k ms aB cN ok hn hs ud len va wM hy FQ (q6 α G A k ms aB cN target elt fun ys => jg L y (.lst ys) (Q .next)) (.mk fun s S => (h.go s S).mono fun iv ag hm => hm.start)
  (fun X' aF D C acc x rest ae dC hI => hI.turn dC) (fun acc ae C mc hI => by
   obtain ⟨pk, pt, q⟩ := hI.fin
   exact St.local ok hy (.there pk) pt ⟨mc, _, .there .here, q⟩) hk hf
end
end
section
section
variable {env : Env} {pos : Pos} {Γ ag ai R : aa} {s s' : Shared} {n : Nat} {Q : AV -> aa -> Prop} {a : Addr}
def WU.neg {i : Int} (q : Q (.int (-i)) Γ) : WU G A X (unaryOp .USub) Rep (.int i) Γ Q := .mk fun s v S r => by
 apply Rep.dZ r; intro t
 exact neg_int (.here (.int _ _) (S.toks _) .refl q)
theorem LstIs.reads {x : AV} {xs : List AV} {ds : List PyData} (h : LstIs Γ x xs) (hd : AV.a7 xs = some ds) (S : aM G Γ s) {v : Value} (r : Rep (bc G Γ) s.heap v x) : ∃ as, Reads s.heap v (.list ds) as := by
 obtain ⟨a, vs, k, rfl, e, rs⟩ := h.go S r
 obtain ⟨as, ra⟩ := rs.reads hd
 exact ⟨_, .list e rfl rfl (by exact ra)⟩
def y9 (ds : List PyData) : PyData.eqv (.list ds) (.list []) = ds.isEmpty := by cases ds <;> rfl
def n7 : ∀ {xs : List AV} {ds : List PyData}, AV.a7 xs = some ds -> ds.isEmpty = xs.isEmpty
 | [], ds, h => by dsimp only [AV.a7] at h; obtain rfl := Option.some.inj h; rfl
 | x :: xs, ds, h => by
  dsimp only [AV.a7] at h
  split at h
  .obtain rfl := Option.some.inj h; rfl
  .contradiction
def WB.ne_nil {x : AV} {xs : List AV} {ds : List PyData} (hR : aj A n) (h : LstIs Γ x xs) (hd : AV.a7 xs = some ds) (hc : (PyData.list ds).canLay0 = true) (q : Q (.raw (.bool (!xs.isEmpty))) Γ) :
  WB G A X (compareOp .NotEq) Rep x (.lst []) Γ Q := .mk fun s v w S rv rw => by
 obtain ⟨as, ra⟩ := h.reads hd S rv
 obtain ⟨bs, rb⟩ := LstIs.reads (.lst (Γ := Γ)) (ds := []) rfl S rw
 refine PySem.SeqAt.compareNe_reads ra rb hc rfl ?_ ?_
 .have h1 : min (PyData.list ds).depth (PyData.list []).depth <= (PyData.list []).depth := Nat.min_le_right _ _
  have h2 : (PyData.list []).depth <= 64 := by decide
  have := hR.ult
  tm_at "o"
 .rw [y9, n7 hd]
  exact .here (.raw _) S .refl q
def WB.za {x y : AV} {ys : List AV} {ds : List PyData} (hR : aj A n) (h : LstIs Γ x (y :: ys)) (hd : AV.a7 (y :: ys) = some ds) (hc : (PyData.list ds).canLay0 = true) (q : Q (.raw (.bool true)) Γ) :
  WB G A X (compareOp .NotEq) Rep x (.lst []) Γ Q := WB.ne_nil hR h hd hc q
def WB.wW {x : AV} (hR : aj A n) (h : LstIs Γ x []) (q : Q (.raw (.bool false)) Γ) : WB G A X (compareOp .NotEq) Rep x (.lst []) Γ Q := WB.ne_nil (ds := []) hR h rfl rfl q
def WB.notIn_list {x y : AV} {xs : List AV} {ds : List PyData} {d : PyData} (hR : aj A n) (h : LstIs Γ x xs) (hd : AV.a7 xs = some ds) (hy : y.data = some d) (hc : PyData.canLayAll0 ds = true) (gG : d.canLay0 = true) (El : d.depth <= 60) (q : Q (.raw (.bool (!ds.any fun z => PyData.eqv z d))) Γ) :
  WB G A X (compareOp .NotIn) Rep y x Γ Q := .mk fun s v w S rv rw => by
 obtain ⟨as, ra⟩ := h.reads hd S rw
 obtain ⟨bs, rb⟩ := rv.reads hy
 refine PySem.SeqAt.notIn_list_reads ra rb hc gG ?_ (.here (.raw _) S .refl q)
 have h1 : min (PyData.depthAll ds) d.depth <= d.depth := Nat.min_le_right _ _
 have := hR.ult
 tm_at "o"
def WB.De {a b : Int} (h : a = b) (q : Q (.raw (.bool true)) Γ) : WB G A X (compareOp .Eq) Rep (.int a) (.int b) Γ Q := WB.eq_int (by rw [decide_eq_true h]; exact q)
def WB.wX {a b : Int} (h : ¬ a = b) (q : Q (.raw (.bool false)) Γ) : WB G A X (compareOp .Eq) Rep (.int a) (.int b) Γ Q := WB.eq_int (by rw [decide_eq_false h]; exact q)
def WB.wY {a b : Int} (h : a = b) (q : Q (.raw (.bool false)) Γ) : WB G A X (compareOp .NotEq) Rep (.int a) (.int b) Γ Q := WB.ne_int (by rw [decide_eq_true h]; exact q)
variable {names aB : List (Str × NameKind)} {L : Addr} {cl cN : List (Str × Addr)}
abbrev zc (G : Base) (A : Around) (X' : Value -> Shared -> Prop) (aF : Env) (elt : Expr) (ms : List Str) (D C : Addr) (y : AV) (acc : List AV) (ai it : aa) (b : Bool) (fH : aa) : Prop := match b with
 | true => WE G A X' aF elt fH (jZ D C ms acc ai it y)
 | false => pE D C ms acc ai it fH
structure Bt (G : Base) (A : Around) (X' : Value -> Shared -> Prop) (aF : Env) (elt : Expr) (ms : List Str) (D C : Addr) (p : Bool) (y : AV) (acc : List AV) (ai it : aa) (b : Bool) (fH : aa) : Prop where
 e : b = p
 t : zc G A X' aF elt ms D C y acc ai it b fH
def fu (G : Base) (A : Around) (X' : Value -> Shared -> Prop) (aF : Env) (target elt : Expr) (ifs : List Expr) (ms : List Str) (D C : Addr) (p : Bool) (y : AV) (acc : List AV) (x : AV) (ai it : aa) : Prop :=
 WA G A X' aF target x (it ++ (D, .list acc) :: (C, .ns (blank ms)) :: ai) fun fJ => WI G A X' aF ifs fJ (Bt G A X' aF elt ms D C p y acc ai it)
section
variable {α : Type} (G : Base) (A : Around) (k : Nat) (ms : List Str) (aB : List (Str × NameKind)) (cN : List (Str × Addr)) (p : α -> Bool) (e e' : α -> AV) (target elt : Expr) (ifs : List Expr) (Q : AV -> aa -> Prop)
inductive wZ (iv : AV) (ag : aa) : Prop
 | mk (ts : List α) {ai : aa} (hw : au G A target k iv ag (ts.map e) ai) (hz : ts.length <= sizeLine)
  (ht : ∀ X' aF D C acc, aA aF aB C cN -> ∀ t ∈ ts, Each k fun it => fu G A X' aF target elt ifs ms D C (p t) (e' t) acc (e t) ai it) (q : Q (.lst ((ts.filter p).map e')) ai)
inductive q9 (acc rest : List AV) (ae : aa) : Prop
 | mk (ts : List α) (er : rest = ts.map e)
  (ht : ∀ X' aF D C acc, aA aF aB C cN -> ∀ t ∈ ts, Each k fun it => fu G A X' aF target elt ifs ms D C (p t) (e' t) acc (e t) ae it) (q : Q (.lst (acc ++ (ts.filter p).map e')) ae)
variable {G A k ms aB cN p e e' target elt ifs Q}
theorem q9.turn {X' : Value -> Shared -> Prop} {aF : Env} {D C : Addr} {acc rest : List AV} {x : AV} {ae : aa} (dC : aA aF aB C cN) (h : q9 G A k ms aB cN p e e' target elt ifs Q acc (x :: rest) ae) :
  Each k fun it => ji G A X' aF target elt ifs ms D C (q9 G A k ms aB cN p e e' target elt ifs Q) acc x rest ae it := by
 obtain ⟨ts, er, ht, q⟩ := h
 cases ts with
 | nil => contradiction
 | cons t ts =>
  obtain ⟨rfl, rfl⟩ := List.cons.inj er
  refine (ht X' aF D C acc dC t (.head _)).imp fun it hm => .mk fun s v S r => (WA.go hm s v S r).mono fun _ fJ ha => .mk fun s S => (ha.go s S).mono fun b fH z => ?_
  have more : ∀ ys, (b = true -> ys = [e' t]) -> (b = false -> ys = []) -> q9 G A k ms aB cN p e e' target elt ifs Q (acc ++ ys) (ts.map e) ae := fun ys h1 h2 => by
   refine ⟨ts, rfl, fun X' aF D C acc dC t h => ht X' aF D C acc dC t (.tail _ h), ?_⟩
   have eb := z.e
   rw [List.filter_cons, <- eb] at q
   rw [List.append_assoc]
   cases b
   .rw [h2 rfl]; exact q
   .rw [h1 rfl]; exact q
  obtain ⟨eb, z⟩ := z
  cases b
  .obtain ⟨w, hm⟩ := z
   exact ⟨ae, _, hm, w, more _ nofun fun _ => rfl⟩
  .exact .mk fun s S => (WE.go z s S).mono fun y pC z => by
    obtain ⟨ey, w, hm⟩ := z
    exact ⟨ae, _, hm, w, more _ (fun _ => by exact ey ▸ rfl) nofun⟩
end
def WE.gR (α : Type) (k : Nat) (ms : List Str) (aB : List (Str × NameKind)) (cN : List (Str × Addr)) (p : α -> Bool) (e e' : α -> AV) {target elt iter : Expr} {ifs : List Expr} {scope : Scope} {Q : AV -> aa -> Prop} (ok : aA env names L cl)
  (hn : jj names scope.names = aB) (hs : bz aB = true) (ud : (scope.names.all fun x => x.2 != .cell) = true) (len : iT cl scope.names [] cN) (va : (cN.map (·.1)).Nodup) (wM : ms.Nodup)
  (h : WE G A X env iter Γ (wZ G A k ms aB cN p e e' target elt ifs Q))
  (hk : autoParam (scope.kind = .function) aR)
  (hf : autoParam (∀ x, foldedSetIterable iter env x = pure x) aJ) : WE G A X env (.ListComp elt [⟨target, iter, ifs, 0⟩] scope pos) Γ Q :=
 WE.jm k ms aB cN ok hn hs ud len va wM (q9 G A k ms aB cN p e e' target elt ifs Q) (.mk fun s S => (h.go s S).mono fun iv ag z => by
   obtain ⟨ts, hw, hz, ht, q⟩ := z
   exact .mk hw (by rw [List.length_map]; exact hz) ⟨ts, rfl, ht, q⟩)
  (fun X' aF D C acc x rest ae dC hI => hI.turn dC) (fun acc ae hI => by
   obtain ⟨ts, er, ht, q⟩ := hI
   cases ts with
   | nil => refine (List.append_nil acc) ▸ ?_; exact q
   | cons => contradiction) hk hf
end
end
section
section
variable {env : Env} {pos : Pos} {Γ ag ai R : aa} {s s' : Shared} {n : Nat} {Q : AV -> aa -> Prop} {a : Addr}
def w0 (ds : List PyData) : PyData.eqv (.tuple ds) (.tuple []) = ds.isEmpty := by cases ds <;> rfl
def WB.ui {xs : List AV} {ds : List PyData} (hR : aj A n) (hd : AV.a7 xs = some ds) (hc : (PyData.tuple ds).canLay0 = true) (q : Q (.raw (.bool (!xs.isEmpty))) Γ) :
  WB G A X (compareOp .NotEq) Rep (.tup xs) (.tup []) Γ Q := .mk fun s v w S rv rw => by
 obtain ⟨as, ra⟩ := rv.reads (d := .tuple ds) (by (dsimp only [AV.data]; simp [hd]))
 obtain ⟨bs, rb⟩ := rw.reads (d := .tuple []) rfl
 refine PySem.SeqAt.compareNe_reads ra rb hc rfl ?_ ?_
 .have h1 : min (PyData.tuple ds).depth (PyData.tuple []).depth <= (PyData.tuple []).depth := Nat.min_le_right _ _
  have h2 : (PyData.tuple []).depth <= 64 := by decide
  have := hR.ult
  tm_at "o"
 .rw [w0, n7 hd]
  exact .here (.raw _) S .refl q
def WB.w6 {y : AV} {ys : List AV} {ds : List PyData} (hR : aj A n) (hd : AV.a7 (y :: ys) = some ds) (hc : (PyData.tuple ds).canLay0 = true) (q : Q (.raw (.bool true)) Γ) :
  WB G A X (compareOp .NotEq) Rep (.tup (y :: ys)) (.tup []) Γ Q := WB.ui hR hd hc q
def WB.vg (hR : aj A n) (q : Q (.raw (.bool false)) Γ) : WB G A X (compareOp .NotEq) Rep (.tup []) (.tup []) Γ Q := WB.ui (ds := []) hR rfl rfl q
def WB.Cy {o i : Expr} {x : AV} {xs : List AV} (q : Q x Γ) (hi : autoParam (bS i = true) aU) : WB G A X (subscriptTail o i) Rep (.tup (x :: xs)) (.int 0) Γ Q :=
 WB.item_tup (j := 0) (by decide) (by decide) (by unfold seqIndex?; simp) rfl q hi
def WB.CA {o i : Expr} {x y : AV} {xs : List AV} (q : Q y Γ) (hi : autoParam (bS i = true) aU) : WB G A X (subscriptTail o i) Rep (.tup (x :: y :: xs)) (.int 1) Γ Q :=
 WB.item_tup (j := 1) (by decide) (by decide) (by unfold seqIndex?; simp; tm_at "o") rfl q hi
structure Bu (G : Base) (A : Around) (X : Value -> Shared -> Prop) (env : Env) (ts : List Expr) (xs : List AV) (Γ : aa) (Q : aa -> Prop) : Prop where
 go : ∀ s vs, aM G Γ s -> ah (bc G Γ) s.heap vs xs -> Tr G A X (assignInOrder ((assignEach ts env).map (·.2)) vs) (pq (γ := Unit)) Γ (fun _ => Q) s
def Bu.nil {Q : aa -> Prop} (q : Q Γ) : Bu G A X env [] [] Γ Q := .mk fun s vs S r => by apply ah.nh r; exact assignInOrder_nil (.here rfl S .refl q)
abbrev FU (G : Base) (A : Around) (X : Value -> Shared -> Prop) (env : Env) (ts : List Expr) (xs : List AV) (Q : aa -> Prop) (Γ : aa) : Prop := Bu G A X env ts xs Γ Q
def j0 {t : Expr} {ts : List Expr} (h : notStar t = true) : assignEach (t :: ts) env = (false, PySem.assign t env) :: assignEach ts env := by cases t <;> first | rfl | contradiction
def Bu.cons {t : Expr} {ts : List Expr} {x : AV} {xs : List AV} {Γ : aa} {Q : aa -> Prop} (h : WA G A X env t x Γ (FU G A X env ts xs Q))
  (he : autoParam (notStar t = true) aU) : Bu G A X env (t :: ts) (x :: xs) Γ Q := .mk fun s vs S r => by
 apply ah.iK r; intro v vs rv rs
 refine (j0 he) ▸ ?_
 refine assignInOrder_cons ((h.go s _ S rv).seq fun _ _ ag ay _ ax aG bk => ?_)
 exact (bk.go ay _ ax (rs.keep aG.az)).back aG
def WA.tuple {ts : List Expr} {k : Nat} {xs : List AV} {Q : aa -> Prop} (hR : aj A n) (hl : (assignEach ts env).length = xs.length) (FV : (assignEach ts env).findIdx? (·.1) = none)
  (h : Bu G A X env ts xs Γ Q) : WA G A X env (.Tuple ts k pos) (.tup xs) Γ Q := .mk fun s v S r => by
 apply Rep.lJ r; intro a vs n e nv rs
 refine assign_Tuple_tuple hR.handled (IsTup.of e) (by rw [List.size_toArray, rs.length]; exact hl) FV fun h' he => ?_
 have z := S.pn (s' := { s with heap := h' }) (bK _) he rfl rfl
 exact (h.go _ _ z.1 (rs.keep z.2.az)).back z.2
end
end
section
set_option backward.match.sparseCases false
section
variable {env : Env} {pos : Pos} {Γ ag ai R : aa} {s s' : Shared} {n : Nat} {Q : AV -> aa -> Prop} {a : Addr}
def WC.uj {xs : List AV} (q : Q (.raw (.bool true)) Γ) : WC G A X (.builtin "isinstance") [.tup xs, .raw (.type "tuple")] Γ Q := .mk fun s vs S r => by
 apply ah.iM r; intro v u r1 r2; apply Rep.bX r2
 apply Rep.lJ r1; intro a vs n e nv rs; exact IsiPair.tuple_tuple e rfl (.here (.raw _) S .refl q)
def WC.zd {x : Str} (q : Q (.raw (.bool false)) Γ) : WC G A X (.builtin "isinstance") [.str x, .raw (.type "tuple")] Γ Q := .mk fun s vs S r => by
 obtain ⟨v, u, e0, r1, r2⟩ := r.inv2; subst e0; cases r2.inv; apply Rep.qN r1; intro t
 exact IsiPair.str_tuple (.here (.raw _) (S.toks _) .refl q)
def WC.ze {x : Int} (q : Q (.raw (.bool false)) Γ) : WC G A X (.builtin "isinstance") [.int x, .raw (.type "tuple")] Γ Q := .mk fun s vs S r => by
 obtain ⟨v, u, e0, r1, r2⟩ := r.inv2; subst e0; cases r2.inv; apply Rep.dZ r1; intro t
 exact IsiPair.int_tuple (.here (.raw _) (S.toks _) .refl q)
def WC.w7 {b : Bool} (q : Q (.raw (.bool false)) Γ) : WC G A X (.builtin "isinstance") [.raw (.bool b), .raw (.type "tuple")] Γ Q := .mk fun s vs S r => by
 obtain ⟨v, u, e0, r1, r2⟩ := r.inv2; subst e0; cases r2.inv; apply Rep.bX r1
 exact IsiPair.bool_tuple (.here (.raw _) (S.toks _) .refl q)
def WC.w8 (q : Q (.raw (.bool false)) Γ) : WC G A X (.builtin "isinstance") [.raw .none, .raw (.type "tuple")] Γ Q := .mk fun s vs S r => by
 apply ah.iM r; intro v u r1 r2; apply Rep.bX r2; apply Rep.bX r1
 exact IsiPair.NoneType_tuple (.here (.raw _) (S.toks _) .refl q)
noncomputable def FW (k : Str) : PyData -> Bool
 | .str t => decide (t = k)
 | _ => false
noncomputable def iW (k : Str) : AV -> Bool
 | .str t => decide (t = k)
 | _ => false
noncomputable def b9 (k : Str) : List AV -> Bool
 | x :: _ => iW k x
 | _ => false
noncomputable def dh (k l : Str) : List AV -> Bool
 | x :: y :: _ => iW k x && iW l y
 | _ => false
def pF (d : PyData) (k : Str) : PyData.eqv d (.str k) = FW k d := by
 cases d <;> first | rfl | (simp only [PyData.eqv, FW]; rename_i x; by_cases h : x = k <;> simp [h])
def w9 {x : AV} {t : Str} (h : x.data = some (.str t)) : x = .str t := by
 cases x with
 | raw v => cases v <;> (dsimp only [AV.data] at h; simp at h)
 | int i => (dsimp only [AV.data] at h; simp at h)
 | str s => (dsimp only [AV.data] at h; simp only [Option.some.injEq, PyData.str.injEq] at h); rw [h]
 | tup xs => (dsimp only [AV.data] at h; simp only [Option.map_eq_some_iff] at h); obtain ⟨_, _, e⟩ := h; contradiction
 | lst xs => (dsimp only [AV.data] at h; simp only [Option.map_eq_some_iff] at h); obtain ⟨_, _, e⟩ := h; contradiction
 | ins => (dsimp only [AV.data] at h; simp at h)
 | dS => (dsimp only [AV.data] at h; simp at h)
def sY {x : AV} {d : PyData} (h : x.data = some d) (k : Str) : FW k d = iW k x := by
 cases d with
 | str t => rw [w9 h]; rfl
 | _ => cases x <;> first | rfl | (dsimp only [AV.data] at h; cases h)
def iX {x : AV} {xs : List AV} {ds : List PyData} (h : AV.a7 (x :: xs) = some ds) : ∃ d r, ds = d :: r /\ x.data = some d /\ AV.a7 xs = some r := by
 dsimp only [AV.a7] at h
 split at h
 .obtain rfl := Option.some.inj h; exact ⟨_, _, rfl, by assumption, by assumption⟩
 .contradiction
def WB.rg {xs ys : List AV} {ds es : List PyData} {b : Bool} (hR : aj A n) (hd : AV.a7 xs = some ds) (he : AV.a7 ys = some es) (hc : PyData.canLayAll0 ds = true) (Bv : PyData.canLayAll0 es = true) (El : (PyData.tuple es).depth <= 60)
  (hb : PyData.eqv (.tuple ds) (.tuple es) = b) (q : Q (.raw (.bool b)) Γ) : WB G A X (compareOp .Eq) Rep (.tup xs) (.tup ys) Γ Q := .mk fun s v w S rv rw => by
 obtain ⟨as, ra⟩ := rv.reads (d := .tuple ds) (by (dsimp only [AV.data]; simp [hd]))
 obtain ⟨bs, rb⟩ := rw.reads (d := .tuple es) (by dsimp only [AV.data]; rw [he]; rfl)
 refine PySem.SeqAt.compareEq_reads ra rb hc Bv ?_ (by rw [hb]; exact .here (.raw _) S .refl q)
 have h1 : min (PyData.tuple ds).depth (PyData.tuple es).depth <= (PyData.tuple es).depth := Nat.min_le_right _ _
 have := hR.ult
 tm_at "o"
def WB.pG {xs : List AV} {ds : List PyData} {k : Str} (hR : aj A n) (hd : AV.a7 (xs.take 1) = some ds) (hc : PyData.canLayAll0 ds = true) (hk : PyData.strOk k = true) (q : Q (.raw (.bool (b9 k xs))) Γ) :
  WB G A X (compareOp .Eq) Rep (.tup (xs.take 1)) (.tup [.str k]) Γ Q := by
 refine WB.rg hR hd (es := [.str k]) rfl hc (by show (PyData.strOk k && true) = true; rw [hk]; rfl) (Nat.le_of_ble_eq_true rfl) ?_ q
 cases xs with
 | nil => ((try dsimp only [AV.a7] at hd); simp only [List.take_nil] at hd; try dsimp only [AV.a7] at hd); obtain rfl := Option.some.inj hd; rfl
 | cons x xs =>
  k_dflt obtain ⟨d, r, e, h1, h2⟩ := iX hd
  ((try dsimp only [AV.a7] at h2); simp only [List.take_zero] at h2; try dsimp only [AV.a7] at h2); obtain rfl := Option.some.inj h2; subst e
  show (PyData.eqv d (.str k) && true) = _
  rw [Bool.and_true, pF, sY h1]; rfl
def WB.xa {xs : List AV} {ds : List PyData} {k l : Str} (hR : aj A n) (hd : AV.a7 (xs.take 2) = some ds) (hc : PyData.canLayAll0 ds = true) (hk : PyData.strOk k = true) (hl : PyData.strOk l = true) (q : Q (.raw (.bool (dh k l xs))) Γ) :
  WB G A X (compareOp .Eq) Rep (.tup (xs.take 2)) (.tup [.str k, .str l]) Γ Q := by
 refine WB.rg hR hd (es := [.str k, .str l]) rfl hc (by show (PyData.strOk k && (PyData.strOk l && true)) = true; rw [hk, hl]; rfl) (Nat.le_of_ble_eq_true rfl) ?_ q
 cases xs with
 | nil => ((try dsimp only [AV.a7] at hd); simp only [List.take_nil] at hd; try dsimp only [AV.a7] at hd); obtain rfl := Option.some.inj hd; rfl
 | cons x xs =>
  obtain ⟨d, r, e, h1, h2⟩ := iX hd
  subst e
  cases xs with
  | nil =>
   dsimp only [AV.a7] at h2; obtain rfl := Option.some.inj h2
   show (PyData.eqv d (.str k) && false) = _
   rw [Bool.and_false]; rfl
  | cons y ys =>
   obtain ⟨d2, r2, e, h3, h4⟩ := iX h2
   ((try dsimp only [AV.a7] at h4); simp only [List.take_zero] at h4; try dsimp only [AV.a7] at h4); obtain rfl := Option.some.inj h4; subst e
   show (PyData.eqv d (.str k) && (PyData.eqv d2 (.str l) && true)) = _
   rw [Bool.and_true, pF, sY h1, pF, sY h3]; rfl
end
end
section
def lU (HF : Array Value) (n j : Nat) (v : Value) : Obj.mapSeq (·.setIfInBounds j v) { cls := .type "list", data := .seq HF n } = { cls := .type "list", data := .seq (HF.setIfInBounds j v) n } := by
 simp [Obj.mapSeq]
section
variable {prog : Program} {w : World} {A : Around} {E : Value -> Shared -> Prop} {s : Shared}
def nu {l : Addr} {items : Array Value} {m : Nat} {k : Int} {t : Tok} {v : Value} {Q : Unit -> Shared -> Prop} (ho : s.heap.get? l = some { cls := .type "list", data := .seq items m }) (h0 : 0 <= k) (hn : k < items.size) (zf : k < 2 ^ 63)
  (hQ : ∀ h', h'.get? l = some { cls := .type "list", data := .seq (items.setIfInBounds k.toNat v) m } -> Heap.SameBut l s.heap h' -> Q () { s with heap := h' }) : wpAny (model prog w) A (setItem (.ref l) (.int k t) v) Q E s := by
 have hl : s.heap.IsList l items := ⟨_, ho, rfl, m, rfl⟩
 have HG : (s.heap.update l (Obj.mapSeq (·.setIfInBounds k.toNat v))).get? l = some { cls := .type "list", data := .seq (items.setIfInBounds k.toNat v) m } := by
  rw [Heap.get?_update_self _ ho (by rw [lU]; rfl), lU]
 unfold setItem
 try with_reducible refine wpAny_holding ?_
 first | refine wpAny_bind (wpAny_pure ?_) | skip
 refine wpAny_bind (wpAny_sequenceKey hl.typeIs (by decide) ?_)
 refine wpAny_bind (wpAny_callSpecial?_slot (name := oS "__setitem__") hl.typeIs slot_list_setitem
  (wpAny_call_entry slot_list_setitem hl.typeIs entry_list_setitem ?_ (args_list_setitem _ _ _)))
 show wpAny _ _ (Builtin.List.listSubscript? (.int k t) >>= _) _ _ s
 refine wpAny_bind (wpAny_listSubscript_int (fitsIndex_of h0 zf) ?_)
 clear zf
 obtain ⟨j, rfl⟩ := Int.eq_ofNat_of_zero_le h0
 have hj : j < items.size := by tm_at "o"
 have xb : items[j]? = some items[j] := Array.getElem?_eq_getElem hj
 skip
 refine wpAny_bind (wpAny_bind (wpAny_seqItemAt ho rfl (wpAny_pure ?_)))
 refine xb ▸ ?_
 show wpAny _ _ (setSeqItemAt l j v >>= _) _ _ s
 refine wpAny_bind (wpAny_setSeqItemAt ho rfl ?_)
 first
  | exact wpAny_bind (wpAny_pure (wpAny_pure ⟨.none, rfl, wpAny_pure (hQ _ HG (Heap.SameBut.update ..))⟩))
  | exact wpAny_pure ⟨.none, rfl, wpAny_pure (hQ _ HG (Heap.SameBut.update ..))⟩
end
section
variable {env : Env} {pos : Pos} {Γ ag ai R : aa} {s s' : Shared} {n : Nat} {Q : AV -> aa -> Prop} {a : Addr}
theorem LstIs.there {e : Addr × bG} {x : AV} {xs : List AV} (h : LstIs Γ x xs) : LstIs (e :: Γ) x xs := by
 induction h with
 | lst => exact .lst
 | list p => exact .list (.there p)
def aC.sZ {b : Addr} {o o' : bG} (p : aC a o Γ R) : ∀ {R'}, aC b o' R R' -> ∃ HH, aC b o' Γ HH := by
 induction p with
 | here => intro R' q; exact ⟨_, .there q⟩
 | there p ih =>
  intro R' q
  refine gF fun Z => ?_
  cases q with
  | here => refine Z ?_; clear Z; exact ⟨_, .here⟩
  | there q => refine Z ?_; clear Z; obtain ⟨HH, z⟩ := ih q; exact ⟨_, .there z⟩
theorem LstIs.sZ {o : bG} {x : AV} {xs : List AV} (p : aC a o Γ R) (h : LstIs R x xs) : LstIs Γ x xs := by
 induction h with
 | lst => exact .lst
 | list q => obtain ⟨_, z⟩ := p.sZ q; exact .list z
def WB.s9 {o i : Expr} {x y : AV} {xs : List AV} {k : Int} (h : LstIs Γ x xs) (h0 : 0 <= k) (Aw : k < 2 ^ 63) (hx : xs[k.toNat]? = some y) (q : Q y Γ) (hi : autoParam (bS i = true) aR) : WB G A X (subscriptTail o i) Rep x (.int k) Γ Q := by
 induction h with
 | lst => exact WB.ij h0 Aw hx q hi
 | list p => exact WB.sX p h0 Aw hx q hi
def WC.vh {x : AV} {xs : List AV} (h : LstIs Γ x xs) (hz : xs.length <= sizeLine) (q : Q (.int xs.length) Γ) : WC G A X (.builtin "len") [x] Γ Q := by
 induction h with
 | lst => exact WC.cn rfl hz q
 | list p => exact WC.len_list p hz q
structure WK (G : Base) (A : Around) (X : Value -> Shared -> Prop) (o i v : AV) (Γ : aa) (Q : aa -> Prop) : Prop where
 go : ∀ s ov iv vv, aM G Γ s -> Rep (bc G Γ) s.heap ov o -> Rep (bc G Γ) s.heap iv i -> Rep (bc G Γ) s.heap vv v -> Tr G A X (setItem ov iv vv) (pq (γ := Unit)) Γ (fun _ => Q) s
abbrev FY (G : Base) (A : Around) (X : Value -> Shared -> Prop) (v : AV) (Q : aa -> Prop) (ov iv : AV) (Γ : aa) : Prop := WK G A X ov iv v Γ Q
abbrev FZ (G : Base) (A : Around) (X : Value -> Shared -> Prop) (env : Env) (i : Expr) (v : AV) (Q : aa -> Prop) (ov : AV) (Γ : aa) : Prop := WE G A X env i Γ (FY G A X v Q ov)
def WA.item {o i : Expr} {v : AV} {Γ : aa} {Q : aa -> Prop} (h : WE G A X env o Γ (FZ G A X env i v Q)) : WA G A X env (.Subscript o i pos) v Γ Q := .mk fun s vv S r => by
 rw [assign_Subscript]
 refine wpAny_bind (wpAny_holding ((h.go s S).seq fun u ov ag ay ro ax aG bk => ?_))
 refine wpAny_bind (wpAny_holding ((bk.go ay ax).seq fun y iv ai aW ri bp bx gx => ?_))
 refine wpAny_bind (wpAny_standAt (wpAny_bind (wpAny_holding ((gx.go aW _ _ _ bp (ro.keep bx.az) ri ((r.keep aG.az).keep bx.az)).seq fun _ _ Ax gK e iE jf q => ?_))))
 exact wpAny_release (.here rfl iE ((aG.trans bx).trans jf) q)
theorem ah.set {V : Addr -> Prop} {h : Heap} {vs : List Value} {xs : List AV} (r : ah V h vs xs) {v : Value} {x : AV} (rv : Rep V h v x) (j : Nat) : ah V h (vs.set j v) (xs.set j x) := by
 induction vs generalizing xs j with
 | nil => cases r; exact .nil
 | cons u us ih =>
  cases r with
  | cons a b =>
   induction j with
   | zero => exact .cons rv b
   | succ j => exact .cons a (ih b j)
theorem WK.list {xs : List AV} {j : Int} {y : AV} {Q : aa -> Prop} (p : aC a (.list xs) Γ R) (h0 : 0 <= j) (zf : j < 2 ^ 63) (hj : j.toNat < xs.length) (q : Q ((a, .list (xs.set j.toNat y)) :: R)) : WK G A X (.raw (.ref a)) (.int j) y Γ Q := .mk fun s ov iv vv S ro ri rv => by
 apply Rep.bX ro; apply Rep.dZ ri; intro t
 obtain ⟨k, rfl⟩ := Int.eq_ofNat_of_zero_le h0
 k_dflt obtain ⟨vs, m, e, rs⟩ := S.at p
 have hl := rs.length
 refine nu e h0 (by rw [List.size_toArray, hl]; exact Int.ofNat_lt.mpr (by simpa using hj)) zf fun h' hl hs => ?_
 have z := S.change (s' := { s with heap := h' }) (o' := .list (xs.set (k : Int).toNat y)) p hs rfl rfl fun kk => by
  refine ⟨vs.set k vv, m, by rw [hl]; simp, ?_⟩
  exact (rs.keep kk).set (rv.keep kk) k
 exact .here rfl z.1 z.2 q
theorem WK.first {u v y : AV} {Q : aa -> Prop} (p : aC a (.list [u, v]) Γ R) (q : Q ((a, .list [y, v]) :: R)) : WK G A X (.raw (.ref a)) (.int 0) y Γ Q := WK.list p (by decide) (by decide) (Nat.le_of_ble_eq_true rfl) q
def WK.second {u v y : AV} {Q : aa -> Prop} (p : aC a (.list [u, v]) Γ R) (q : Q ((a, .list [u, y]) :: R)) : WK G A X (.raw (.ref a)) (.int 1) y Γ Q := WK.list p (by decide) (by decide) (Nat.le_of_ble_eq_true rfl) q
def WB.mod_int {i j : Int} (h : j ≠ 0) (q : Q (.int (i.fmod j)) Γ) : WB G A X (binaryOp .Mod) Rep (.int i) (.int j) Γ Q := .mk fun s v w S rv rw => by
 cases rv.inv; cases rw.inv
 exact mod_int' h (.here (.int _ _) (S.toks _) .refl q)
def WB.uk {i j : Int} (h : j ≠ 0) (hs : j.natAbs.log2 < 9000) (q : Q (.int (i.fdiv j)) Γ) : WB G A X (binaryOp .FloorDiv) Rep (.int i) (.int j) Γ Q := .mk fun s v w S rv rw => by
 apply Rep.dZ rv; intro t; apply Rep.dZ rw; intro t
 exact floordiv_int h (.here (.int _ _) (S.toks _) .refl q) (.inl (PyProof.noPylong_of_log2 hs))
theorem WB.mul_int {i j : Int} (h : Builtin.Int.intBits i <= 64 \/ Builtin.Int.intBits j <= 64) (q : Q (.int (i * j)) Γ) : WB G A X (binaryOp .Mult) Rep (.int i) (.int j) Γ Q := .mk fun s v w S rv rw => by
 cases rv.inv; cases rw.inv
 exact P.mul_int (.here (.int _ _) (S.toks _) .refl q) (h.elim IntMulOk.of_left IntMulOk.of_right)
theorem WB.sub_int {i j : Int} (q : Q (.int (i - j)) Γ) : WB G A X (binaryOp .Sub) Rep (.int i) (.int j) Γ Q := .mk fun s v w S rv rw => by
 cases rv.inv; cases rw.inv
 exact P.sub_int (.here (.int _ _) (S.toks _) .refl q)
theorem WB.gt_int {i j : Int} (q : Q (.raw (.bool (decide (i > j)))) Γ) : WB G A X (compareOp .Gt) Rep (.int i) (.int j) Γ Q := .mk fun s v w S rv rw => by
 cases rv.inv; cases rw.inv
 exact P.gt_int (.here (.raw _) S .refl q)
theorem WB.ge_int {i j : Int} (q : Q (.raw (.bool (decide (i >= j)))) Γ) : WB G A X (compareOp .GtE) Rep (.int i) (.int j) Γ Q := .mk fun s v w S rv rw => by
 cases rv.inv; cases rw.inv
 exact P.ge_int (.here (.raw _) S .refl q)
def WC.int_int {i : Int} (q : Q (.int i) Γ) : WC G A X (.type "int") [.int i] Γ Q := .mk fun s vs S r => by
 obtain ⟨v, e0, r1⟩ := r.inv1; subst e0; apply Rep.dZ r1; intro t
 exact call_int_int (.here (.int _ _) S .refl q)
def WC.int_bool {b : Bool} (q : Q (.int (if b then 1 else 0)) Γ) : WC G A X (.type "int") [.raw (.bool b)] Γ Q := .mk fun s vs S r => by
 obtain ⟨v, e0, r1⟩ := r.inv1; subst e0; apply Rep.bX r1
 exact call_int_bool (.here (.int _ _) (S.toks _) .refl q)
def WC.max2 {i j : Int} (hR : aj A n) (q : Q (.int (if j > i then j else i)) Γ) : WC G A X (.builtin "max") [.int i, .int j] Γ Q := .mk fun s vs S r => by
 apply ah.iM r; intro v u r1 r2; apply Rep.dZ r1; intro t; apply Rep.dZ r2; intro t
 refine max_two_ints hR.handled fun h' tk hk => ?_
 have z := S.grow (s' := { s with heap := h', toks := tk }) hk rfl rfl
 refine ⟨_, Γ, ?_, z.1, z.2, q⟩
 split <;> exact .int _ _
end
end
section
open Builtin in
def j2 : fillsNumberSlot (.type "tuple") "mul" = pure false :=
 PySem.fillsNumberSlot_seq (id := "tuple.__mul__") (r := some (.builtin "tuple.__rmul__")) PySem.F.slot_tuple_mul.lookup (by tm_at "dk") PySem.F.slot_tuple_rmul.lookup (by tm_at "dk")
def pH : seqRepeat? (.type "tuple") = pure (some (.builtin "tuple.__mul__")) := by
 unfold seqRepeat?
 refine (PySem.seqSlot_of (T := "tuple") (name := "__mul__") (id := "tuple.__mul__") PySem.F.slot_tuple_mul.lookup (by tm_at "dk")) ▸ (PySem.seqSlot_of (T := "tuple") (name := "__rmul__") (id := "tuple.__rmul__") PySem.F.slot_tuple_rmul.lookup (by tm_at "dk")) ▸ ?_
 rfl
def ta (a : Int) (t : Tok) (l : Addr) (items : Array Value) (n : Nat) :
  Meets (Builtin.«int.__rmul__» ⟨[.int a t, .ref l], []⟩) (fun _ R s => s.heap.get? l = some { cls := .type "tuple", dict := none, data := .seq items n, slots := #[] } /\ R (.ok (.ret Value.notImplemented)) s) :=
 .of_wp fun prog w A R s h => by obtain ⟨hp, g, d, tk, os⟩ := s; obtain ⟨hl, h⟩ := h; (repeat tm_at "wp"); exact ⟨_, rfl, h⟩
def nx (l : Addr) (items : Array Value) (n : Nat) (u : Tok) :
  Meets (Builtin.«tuple.__mul__» ⟨[.ref l, .int 1 u], []⟩) (fun _ R s => s.heap.get? l = some { cls := .type "tuple", dict := none, data := .seq items n, slots := #[] } /\ R (.ok (.ret (.ref l))) s) :=
 .of_wp fun prog w A R s h => by
  obtain ⟨hp, g, d, tk, os⟩ := s; obtain ⟨hl, h⟩ := h; have f1 := AutoSeq1.idx_int; have f2 := AutoSeq1.sub_tuple_tuple
  have hc : (items.isEmpty || (1 : Int) == 1) = true := by simp
  (repeat tm_at "wp"); exact ⟨_, rfl, h⟩
def ny (l : Addr) (x : Value) (n : Nat) (u : Tok) :
  Meets (Builtin.«tuple.__mul__» ⟨[.ref l, .int 2 u], []⟩) (fun _ R s => s.heap.get? l = some { cls := .type "tuple", dict := none, data := .seq #[x] n, slots := #[] } /\ R (.ok (.ret (.ref s.heap.objs.size))) { s with heap := s.heap.push { cls := .type "tuple", data := .seq #[x, x] } }) :=
 .of_wp fun prog w A R s h => by
  obtain ⟨hp, g, d, tk, os⟩ := s; obtain ⟨hl, h⟩ := h; have f1 := AutoSeq1.idx_int; have f2 := AutoSeq1.sub_tuple_tuple
  (repeat tm_at "wp"); exact ⟨_, rfl, h⟩
section
variable {env : Env} {pos : Pos} {Γ ag ai R : aa} {s s' : Shared} {n : Nat} {Q : AV -> aa -> Prop} {a : Addr}
def rh {l : Addr} {items : Array Value} {k : Nat} {x : Int} {u : Tok} {P : Value -> Shared -> Prop} (e : s.heap.get? l = some { cls := .type "tuple", data := .seq items k }) (h : wpAny G.M A (call (.builtin "tuple.__mul__") [.ref l, .int x u]) P X s) :
  wpAny G.M A (binaryOp .Mult (.ref l) (.int x u)) P X s :=
 wpAny_binaryOp_repeat_ref (T := "tuple") (U := "int") (by decide) ⟨_, e, rfl⟩ (fun s' => typeIs_int s' x u) j2 PySem.F.fills_int_mul PySem.F.slot_int_rmul pH PySem.F.slot_int_index.lookup
  (call_meets PySem.F.slot_int_rmul (typeIs_int s x u) PySem.F.entry_int_rmul (PySem.F.args_int_rmul_2 _ _) (ta x u l items k) ⟨e, rfl, ⟨_, e, rfl⟩, h⟩)
def WB.mul_one {xs : List AV} (q : Q (.tup xs) Γ) : WB G A X (binaryOp .Mult) Rep (.tup xs) (.int 1) Γ Q := .mk fun s v w S rv rw => by
 apply Rep.dZ rw; intro t
 apply Rep.lJ rv; intro a vs n e nv rs; exact rh e (call_meets PySem.F.slot_tuple_mul ⟨_, e, rfl⟩ PySem.F.entry_tuple_mul (PySem.F.args_tuple_mul_2 _ _) (nx _ _ _ _) ⟨e, .here (.tup e nv rs) S .refl q⟩)
def WB.mul_two {x : AV} (q : Q (.tup [x, x]) Γ) : WB G A X (binaryOp .Mult) Rep (.tup [x]) (.int 2) Γ Q := .mk fun s v w S rv rw => by
 apply Rep.dZ rw; intro t
 apply Rep.lJ rv; intro a vs n e nv rs
 obtain ⟨v, e0, r⟩ := rs.inv1
 subst e0
 have z := S.push (s' := { s with heap := s.heap.push { cls := .type "tuple", data := .seq #[v, v] } }) rfl rfl rfl
 exact rh e (call_meets PySem.F.slot_tuple_mul ⟨_, e, rfl⟩ PySem.F.entry_tuple_mul (PySem.F.args_tuple_mul_2 _ _) (ny _ v _ _) ⟨e, .here (.tup (vs := [v, v]) (n := 0) (Heap.get?_push_size _ rfl) (cJ S) (.cons (r.keep z.2.az) (.one (r.keep z.2.az)))) z.1 z.2 q⟩)
theorem WB.lt_int {i j : Int} (q : Q (.raw (.bool (decide (i < j)))) Γ) : WB G A X (compareOp .Lt) Rep (.int i) (.int j) Γ Q := .mk fun s v w S rv rw => by
 apply Rep.dZ rv; intro t; apply Rep.dZ rw; intro t
 exact P.lt_int (.here (.raw _) S .refl q)
theorem fL.tup {l : Addr} {vs : List Value} {k : Nat} {xs : List AV} (h : G.K.lookup l = some (cj vs k)) (r : ∀ Γ s, aM G Γ s -> ah (bc G Γ) s.heap vs xs) : fL G (.ref l) (.tup xs) := fun Γ s S =>
 have k := G.iC _ _ h
 .tup (S.keep _ _ k.1 k.2) (wo S k.1 k.2) (r Γ s S)
end
end
section
set_option backward.match.sparseCases false
def ik {P : Params} {V : Addr -> Prop} {h : Heap} {name : Str} : ∀ {es : List DictEntry} {m : List (Str × AV)}, cz P es (m.map (·.1)) -> ah V h (es.map (·.val)) (m.map (·.2)) ->
  match bH m name with
  | some y => ∃ e, es.find? (·.key.isStr name) = some e /\ Rep V h e.val y
  | none => es.find? (·.key.isStr name) = none /\ es.any (·.refKey) = false := by
 intro es m
 induction m generalizing es with
 | nil => intro s r; cases s; exact ⟨rfl, rfl⟩
 | cons p m ih =>
  obtain ⟨k, z⟩ := p
  intro s r
  cases s with
  | @cons hs x t v es xs e s =>
   cases r.inv with
   | cons rv rs =>
    have ih := ih s rs
    dsimp only [bH]
    have hi : (Value.str k t).isStr name = decide (k = name) := by
     show (k == name) = _
     by_cases h : k = name <;> rfl
    by_cases hk : k = name
    .rw [if_pos hk]
     refine ⟨⟨hs, .str k t, v⟩, ?_, rv⟩
     rw [List.find?_cons]
     show (match (Value.str k t).isStr name with | true => some _ | false => _) = _
     rw [hi, decide_eq_true hk]
    .rw [if_neg hk]
     have hf : List.find? (·.key.isStr name) (⟨hs, .str k t, v⟩ :: es) = es.find? (·.key.isStr name) := by
      rw [List.find?_cons]
      show (match (Value.str k t).isStr name with | true => _ | false => _) = _
      rw [hi, decide_eq_false hk]
     have hr : List.any (⟨hs, .str k t, v⟩ :: es) (·.refKey) = es.any (·.refKey) := by
      rw [List.any_cons]
      show (false || _) = _
      rfl
     refine hf ▸ hr ▸ ?_
     exact ih
inductive zg (P : Params) (C : Addr) (m : List (Str × AV)) (V : Addr -> Prop) (h : Heap) (v : Value) : Prop
 | mk (a d : Addr) (bZ : Array DictEntry) (k : Nat) (e : v = .ref a) (e1 : h.get? a = some (instObj C d)) (n1 : ¬ V a) (e2 : h.get? d = some { cls := .type "dict", data := .dict bZ k }) (n2 : ¬ V d) (sk : cz P bZ.toList (m.map (·.1))) (rs : ah V h (bZ.toList.map (·.val)) (m.map (·.2))) (nd : (m.map (·.1)).Nodup)
noncomputable def gj (P : Params) (C : Addr) (m : List (Str × AV)) : AV := .dS {
 P := zg P C m
 ref := fun V h v z => (by induction z with | mk a _ _ _ e => exact ⟨a, e⟩)
 keep := fun V V' h h' v k z => (by induction z with | mk a d bZ n e e1 n1 e2 n2 sk rs nd => exact ⟨a, d, bZ, n, e, (k _ _ e1 n1).1, (k _ _ e1 n1).2, (k _ _ e2 n2).1, (k _ _ e2 n2).2, sk, rs.keep k, nd⟩)}
inductive lV (G : Base) (Γ : aa) : AV -> Addr -> List (Str × AV) -> Prop
 | own {a d C m R R'} : aC a (.inst C d) Γ R -> aC d (.fld m) Γ R' -> lV G Γ (.raw (.ref a)) C m
 | d8 {C m} : lV G Γ (gj G.w.params C m) C m
noncomputable def AV.handed : AV -> Bool
 | .raw v => handedIn v
 | _ => true
section
variable {env : Env} {pos : Pos} {Γ ag ai R : aa} {s s' : Shared} {n : Nat} {Q : AV -> aa -> Prop} {a C : Addr} {m : List (Str × AV)}
set_option tactic.hygienic true in
theorem Rep.handed {V : Addr -> Prop} {h : Heap} {v : Value} {y : AV} (r : Rep V h v y) (e : y.handed = true) : handedIn v = true := by
 cases r with
 | raw => exact e
 | dS q => rename_i p; obtain ⟨a, rfl⟩ := p.ref _ _ _ q; rfl
 | _ => rfl
def lV.go {x : AV} (h : lV G Γ x C m) (S : aM G Γ s) {v : Value} (r : Rep (bc G Γ) s.heap v x) : ∃ a d bZ k, v = .ref a /\ s.heap.get? a = some (instObj C d) /\ s.heap.get? d = some { cls := .type "dict", data := .dict bZ k } /\ cz G.w.params bZ.toList (m.map (·.1)) /\ ah (bc G Γ) s.heap (bZ.toList.map (·.val)) (m.map (·.2)) /\ (m.map (·.1)).Nodup := by
 refine gF fun Z => ?_
 induction h with
 | own p q =>
  refine Z ?_; clear Z
  apply Rep.bX r
  k_dflt obtain ⟨bZ, k, e, sk, rs, nd⟩ := S.at q
  exact ⟨_, _, bZ, k, rfl, S.at p, e, sk, rs, nd⟩
 | d8 =>
  refine Z ?_; clear Z
  have ri := r.inv; clear r; induction ri with
  | dS q =>
   k_dflt obtain ⟨a, d, bZ, k, rfl, e1, n1, e2, n2, sk, rs, nd⟩ := q
   exact ⟨_, _, bZ, k, rfl, e1, e2, sk, rs, nd⟩
def um {h : Heap} {a d : Addr} {bZ : Array DictEntry} {k : Nat} (e1 : h.get? a = some (instObj C d)) (e2 : h.get? d = some { cls := .type "dict", data := .dict bZ k }) : InstAt h a (instObj C d) C (some { cls := .type "dict", data := .dict bZ k }) := ⟨e1, rfl, rfl, e2⟩
noncomputable def fN (K : Frag) (C : Addr) (name : Str) : Bool := plainGet K C name && hasDictIn K C && (match findIn K (.ref C) name with | some attr => noGet K attr | none => false)
theorem WE.attr {o : Expr} {name : Str} (h : WE G A X env o Γ fun x ag => ∃ C m y, lV G ag x C m /\ bH m name = some y /\ fN G.K C name = true /\ y.handed = true /\ Q y ag)
  (he : eval (.Attribute o name pos) env = (do
   let ov <- eval o env
   standAt pos.atName
   let r <- holding [ov] (getAttr ov name true)
   letTemporaryGo o ov r
   pure r) := by with_unfolding_all rfl)
 : WE G A X env (.Attribute o name pos) Γ Q := .mk fun s S =>
 Attribute_any_ ((h.go s S).seq fun v x ag ay r ax aG zz => by
  k_dflt obtain ⟨C, m, y, hi, hg, hf, hh, q⟩ := zz
  k_dflt obtain ⟨a, d, bZ, k, rfl, e1, e2, sk, rs, nd⟩ := hi.go ax r
  unfold fN at hf
  rw [Bool.and_eq_true, Bool.and_eq_true] at hf
  obtain ⟨⟨f1, f2⟩, f3⟩ := hf
  have z := ik (name := name) sk rs
  rw [hg] at z
  obtain ⟨e, JI, re⟩ := z
  cases ha : findIn G.K (.ref C) name with
  | none => replace f3 := ha ▸ f3; contradiction
  | some attr =>
   rw [ha] at f3
   refine get_value ax.iC (um e1 e2) (plainGet_of f1).1 (findObj_own f2 ha f3 (v := e.val) ?_) (re.handed hh) (.here re (ax.toks _) aG q)
   unfold lookIn
   dsimp only
   rw [JI]) he
noncomputable def pI (K : Frag) (C : Addr) (name : Str) (f : Addr) : Bool := plainGet K C name && findIn K (.ref C) name == some (some (.ref f)) && typeIn K (.ref f) == some (.type "function") && keepIn K (.ref f)
def WM.inst {name : Str} {f : Addr} {x : AV} {Q : Value -> List AV -> aa -> Prop} (hi : lV G Γ x C m) (hg : bH m name = none) (hf : pI G.K C name f = true) (q : Q (.ref f) [x] Γ) : WM G A X name x Γ Q := .mk fun pl s v S r => by
 k_dflt obtain ⟨a, d, bZ, k, rfl, e1, e2, sk, rs, nd⟩ := hi.go S r
 unfold pI at hf
 rw [Bool.and_eq_true, Bool.and_eq_true, Bool.and_eq_true] at hf
 obtain ⟨⟨⟨f1, f2⟩, f3⟩, f4⟩ := hf
 have z := ik (name := name) sk rs
 rw [hg] at z
 refine method_fn S.iC (um e1 e2) (plainGet_of f1).1 (plainGet_of f1).2 (beq_iff_eq.mp f2) (beq_iff_eq.mp f3) ?_ ⟨[x], Γ, .one r, S, .refl, fun _ => .of_K f4, q⟩
 show (lookIn name _).map _ = _
 unfold lookIn
 dsimp only
 rw [z.1, z.2]
 rfl
end
end
section
section
variable {prog : Program} {w : PySem.World} {A : Around} {E : Value -> Shared -> Prop} {s : Shared} {K : Frag} {x C dx : Addr}
noncomputable def fO (K : Frag) (C : Addr) (name : Str) : Bool := findIn K (.ref C) "__setattr__" == some (some (.builtin "object.__setattr__")) && plainOver K C && takerIn K C name == some none && hasDictIn K C
set_option tactic.hygienic true in
def zh {name : Str} {tk : Tok} {v : Value} {es : List DictEntry} {k : Nat} {R : Result -> Shared -> Prop} (X : K.In s.heap) (e1 : s.heap.get? x = some (instObj C dx)) (e2 : s.heap.get? dx = some (dictOf es k)) (f2 : plainOver K C = true) (f3 : takerIn K C name = some none) (f4 : hasDictIn K C = true) (hl : (getL name es).isSome = true)
  (hz : (putL name (PyData.keyHash w.params name) (.str name s.toks) v es).length <= 1000)
  (h : ∀ h' k', h'.get? dx = some (dictOf (putL name (PyData.keyHash w.params name) (.str name s.toks) v es) k') -> Heap.SameBut dx s.heap h' -> R (.ok (.ret .none)) { s with heap := h', toks := s.toks + 1 }) :
  codeAny (model prog w) A (.call (.builtin "object.__setattr__") ⟨[.ref x, .str name tk, v], []⟩) R s := by
 have I : InstAt s.heap x (instObj C dx) C (some (dictOf es k)) := ⟨e1, rfl, rfl, e2⟩
 refine osa_open X I f2 f3 fun b => ?_
 k_dflt obtain ⟨cd, hc, u7⟩ := any_some f4
 have hp := putName_dict name (PyData.keyHash w.params name) (.str name s.toks) v es k
 have D' : (s.heap.update dx (Obj.putName name (PyData.keyHash w.params name) (.str name s.toks) v)).get? dx = some (dictOf (putL name (PyData.keyHash w.params name) (.str name s.toks) v es) (putN name es k)) := by
  rw [Heap.get?_update_self _ e2 (by rw [hp]; rfl), hp]
 refine wpAny_bind (wpAny_pure (wpAny_bind (wpAny_bind (wpAny_loadPart e1 (wpAny_bind ((looks_clsIn X hc).here ?_))))))
 rw [u7]
 refine wpAny_pure (a := some dx) (wpAny_bind (wpAny_pure (wpAny_bind ?_)))
 unfold nsSet
 refine wpAny_bind (wpAny_bind (wpAny_askSetting (wpAny_pure (wpAny_bind (wpAny_mkText (wpAny_bind (wpAny_loadPart e2 ?_)))))))
 dsimp only
 have c : (!es.toArray.any (·.key.isStr name) && es.toArray.any (·.refKey)) = false := by
  refine Array.any_toList ▸ Array.any_toList ▸ ?_
  unfold getL at hl
  split at hl
  .rename_i en he
   rw [List.any_eq_true.mpr ⟨en, List.mem_of_find?_eq_some he, List.find?_some he⟩]; rfl
  .split at hl
   .contradiction
   .rename_i z; rw [Bool.not_eq_true] at z; rw [z, Bool.and_false]
 rw [aRefKeyMayBeTheName_at, c]
 refine wpAny_updatePart e2 ?_
 refine wpAny_bind (wpAny_lookBehind D' (pastItsLine_dict (by rw [List.size_toArray, sizeLine_eq]; tm_at "o")) ?_)
 exact wpAny_pure (h _ _ D' (Heap.SameBut.update ..))
def rj {name : Str} {v : Value} {es : List DictEntry} {k : Nat} {Q : Unit -> Shared -> Prop} (X : K.In s.heap) (e1 : s.heap.get? x = some (instObj C dx)) (e2 : s.heap.get? dx = some (dictOf es k)) (hs : fO K C name = true) (hl : (getL name es).isSome = true)
  (hz : (putL name (PyData.keyHash w.params name) (.str name (s.toks + 1)) v es).length <= 1000)
  (h : ∀ h' k', h'.get? dx = some (dictOf (putL name (PyData.keyHash w.params name) (.str name (s.toks + 1)) v es) k') -> Heap.SameBut dx s.heap h' -> Q () { s with heap := h', toks := s.toks + 2 }) : wpAny (model prog w) A (setAttr (.ref x) name v) Q E s := by
 unfold fO at hs
 simp only [Bool.and_eq_true] at hs
 k_dflt obtain ⟨⟨⟨f1, f2⟩, f3⟩, f4⟩ := hs
 have I : InstAt s.heap x (instObj C dx) C (some (dictOf es k)) := ⟨e1, rfl, rfl, e2⟩
 exact set_plain X I (beq_iff_eq.mp f1) (zh (s := { s with toks := s.toks + 1 }) X e1 e2 f2 (beq_iff_eq.mp f3) f4 hl hz h)
end
def uo {P : Params} {V : Addr -> Prop} {h : Heap} {name : Str} {t : Tok} {v : Value} {y : AV} (rv : Rep V h v y) : ∀ {es : List DictEntry} {m : List (Str × AV)}, cz P es (m.map (·.1)) -> ah V h (es.map (·.val)) (m.map (·.2)) ->
  cz P (putL name (PyData.keyHash P name) (.str name t) v es) ((bN m name y).map (·.1)) /\ ah V h ((putL name (PyData.keyHash P name) (.str name t) v es).map (·.val)) ((bN m name y).map (·.2)) := by
 intro es m
 induction m generalizing es with
 | nil => intro s r; cases s; exact ⟨.cons rfl .nil, .one rv⟩
 | cons p m ih =>
  obtain ⟨k, z⟩ := p
  intro s r
  cases s with
  | @cons hs x t' u es xs e s =>
   have ri := r.inv; cases ri with
   | cons ru rs =>
    have ih := ih s rs
    have hi : (Value.str k t').isStr name = decide (k = name) := by
     show (k == name) = _
     by_cases h : k = name <;> rfl
    dsimp only [bN]
    by_cases hk : k = name
    .have e1 : putL name (PyData.keyHash P name) (.str name t) v (⟨hs, .str k t', u⟩ :: es) = ⟨hs, .str k t', v⟩ :: es := by
      show (if (Value.str k t').isStr name = true then _ else _) = _
      rw [hi, decide_eq_true hk, if_pos rfl]
     rw [if_pos hk]
     refine ⟨?_, ?_⟩
     .show cz P (putL name (PyData.keyHash P name) (.str name t) v (⟨hs, .str k t', u⟩ :: es)) _
      rw [e1]
      subst hk
      exact .cons e s
     .show ah V h ((putL name (PyData.keyHash P name) (.str name t) v (⟨hs, .str k t', u⟩ :: es)).map (·.val)) _
      rw [e1]
      exact .cons rv rs
    .have e1 : putL name (PyData.keyHash P name) (.str name t) v (⟨hs, .str k t', u⟩ :: es) = ⟨hs, .str k t', u⟩ :: putL name (PyData.keyHash P name) (.str name t) v es := by
      show (if (Value.str k t').isStr name = true then _ else _) = _
      rw [hi, decide_eq_false hk, if_neg Bool.false_ne_true]
     rw [if_neg hk]
     refine ⟨?_, ?_⟩
     .show cz P (putL name (PyData.keyHash P name) (.str name t) v (⟨hs, .str k t', u⟩ :: es)) _
      rw [e1]
      exact .cons e ih.1
     .show ah V h ((putL name (PyData.keyHash P name) (.str name t) v (⟨hs, .str k t', u⟩ :: es)).map (·.val)) _
      rw [e1]
      exact .cons ru ih.2
def cz.len {P : Params} {es : List DictEntry} {ks : List Str} (s : cz P es ks) : es.length = ks.length := s.length
def fP {m : List (Str × AV)} {k : Str} {y : AV} (nd : (m.map (·.1)).Nodup) : ((bN m k y).map (·.1)).Nodup := by
 rw [fm]
 split
 .exact nd
 .rename_i hk
  exact List.nodup_append.mpr ⟨nd, by simp, fun a ha b hb => by rw [List.mem_singleton] at hb; subst hb; exact fun e => hk (e ▸ ha)⟩
def rl {m : List (Str × AV)} {k : Str} {y : AV} : (bN m k y).length <= m.length + 1 := by
 induction m with
 | nil => exact Nat.le_refl _
 | cons p m ih =>
  dsimp only [bN]
  split
  .simp
  .simp; tm_at "o"
section
variable {env : Env} {pos : Pos} {Γ ag ai R R' : aa} {s s' : Shared} {n : Nat} {Q : AV -> aa -> Prop} {a d C : Addr} {m : List (Str × AV)}
def WA.attr {o : Expr} {name : Str} {y : AV} {Q : aa -> Prop} (h : WE G A X env o Γ fun ov ag => ∃ a d C m R R', ov = .raw (.ref a) /\ aC a (.inst C d) ag R /\ aC d (.fld m) ag R' /\ fO G.K C name = true /\ m.length <= 100 /\ Q ((d, .fld (bN m name y)) :: R'))
  (he : autoParam (∀ v, PySem.assign (.Attribute o name pos) env v = (do
   let ov <- holding [v] (eval o env)
   standAt pos.atName
   holding [v, ov] (setAttr ov name v)
   release [v, ov] [])) aJ) : WA G A X env (.Attribute o name pos) y Γ Q := .mk fun s v S r => by
 rw [he]
 refine wpAny_bind (wpAny_holding ((h.go s S).seq fun u ov ag ay ro ax aG zz => ?_))
 k_dflt obtain ⟨a, d, C, m, R, R', e, p, p', hs, hl, q⟩ := zz
 subst e; apply Rep.bX ro
 k_dflt obtain ⟨bZ, k, e2, sk, rs, nd⟩ := ax.at p'
 have e1 : ay.heap.get? a = some (instObj C d) := ax.at p
 have r' := r.keep aG.az
 have z := uo (name := name) (t := ay.toks + 1) r' sk rs
 have zl := z.1.length
 have hlen := rl (m := m) (k := name) (y := y)
 refine wpAny_bind (wpAny_standAt (wpAny_bind (wpAny_holding (rj (es := bZ.toList) (k := k) ax.iC e1 (by exact e2) hs ?_ (by rw [zl, List.length_map]; tm_at "o") fun h' k' g ue => ?_))))
 .have w := ik (name := name) sk rs
  unfold getL
  cases hg : bH m name with
  | some y => rw [hg] at w; obtain ⟨e, he, _⟩ := w; refine he ▸ ?_; rfl
  | none => replace w := hg ▸ w; refine w.1 ▸ w.2 ▸ ?_; rfl
 .have zz := ax.change (s' := { ay with heap := h', toks := ay.toks + 2 }) (o' := .fld (bN m name y)) p' ue rfl rfl fun kk => by
   exact ⟨_, k', g, by simpa using z.1, by simpa using z.2.keep kk, fP nd⟩
  exact wpAny_release (.here rfl zz.1 (aG.trans zz.2) q)
end
end
section
section
variable {env : Env} {pos : Pos} {Γ ag ai R R' : aa} {s s' : Shared} {n : Nat} {Q : AV -> aa -> Prop} {a d C : Addr} {m : List (Str × AV)}
theorem aj.under {rest : List Value} (r : aj A (n + 1)) : aj (A.under (.builtin "type.__call__" ⟨.ref C :: rest, []⟩)) n := by
 have h1 : (Code.builtin "type.__call__" ⟨.ref C :: rest, []⟩).weight <= 1 := Nat.le_of_eq rfl
 have h2 : (Code.builtin "type.__call__" ⟨.ref C :: rest, []⟩).cUnits <= 5 := Nat.le_of_ble_eq_true rfl
 refine ⟨?_, ?_, r.handled⟩
 .have := r.depth; show A.depth + _ + n < _; tm_at "o"
 .have := r.units; show A.units + _ + _ + 300 <= _; tm_at "o"
def WC.make {fI : Addr} {xs : List AV} (hR : aj A (n + 1)) (hm : makesIn G.K C = true) (hi : findIn G.K (.ref C) "__init__" = some (some (.ref fI))) (hf : typeIn G.K (.ref fI) = some (.type "function"))
  (h : ∀ a d A' X', aj A' n -> WF G A' X' (.ref fI) (.raw (.ref a) :: xs) ((a, .inst C d) :: (d, .fld []) :: Γ) fun v ae => v = .raw .none /\ Q (.raw (.ref a)) ae) : WC G A X (.ref C) xs Γ Q := .mk fun s vs S r => by
 refine wpAny_call ?_
 have z1 := S.alloc (s' := { s with heap := s.heap.push emptyDict }) (o' := .fld []) rfl rfl rfl fun kk => ⟨#[], 0, Heap.get?_push_size _ rfl, .nil, .nil, .nil⟩
 have z2 := z1.1.alloc (s' := { s with heap := (s.heap.push emptyDict).push (instObj C s.heap.objs.size) }) (o' := .inst C s.heap.objs.size) rfl rfl rfl fun kk => Heap.get?_push_size _ rfl
 have T := z1.2.trans z2.2
 have e : (s.heap.push emptyDict).objs.size = s.heap.objs.size + 1 := Heap.size_push ..
 obtain ⟨hh, g, dd, t, os⟩ := s
 refine make_core (init := .ref fI) (makes_of S.iC hm) (looks_findIn S.iC hi) (fun self => bind_fn S.iC self hf) (.inl rfl) ?_
 dsimp only at e z1 z2 T ⊢
 rw [e] at z2 T
 refine codeAny_mono ((h (hh.objs.size + 1) hh.objs.size _ X (hR.under (C := C) (rest := vs))).go _ (.ref (hh.objs.size + 1) :: vs) z2.1 (.cons (.raw _) (r.keep T.az))) fun rr s' z => ?_
 rcases rr with e' | (v | _ | _ | _) <;> first | exact z | skip
 obtain ⟨b, ae, rb, S', T', e1, q⟩ := z
 subst e1
 apply Rep.bX rb
 exact ⟨rfl, _, ae, .raw _, S', T.trans T', q⟩
end
end
section
section
variable {env : Env} {pos : Pos} {Γ ag ai R R' : aa} {s s' : Shared} {n : Nat} {Q : AV -> aa -> Prop} {a d C : Addr} {es : List (Str × AV)}
def WE.fQ (q : ∀ a, Q (.raw (.ref a)) ((a, .bj []) :: Γ)) : WE G A X env (.Dict [] [] pos) Γ Q := .mk fun s S => by
 refine wpAny_Dict_empty ?_
 have z := S.alloc (s' := { s with heap := s.heap.push { cls := .type "dict", data := .dict #[] } }) (o' := .bj []) rfl rfl rfl fun k => ⟨fM S, #[], 0, Heap.get?_push_size _ rfl, .nil, .nil, .nil⟩
 exact .here (.raw _) z.1 z.2 (q _)
def kG (S : aM G ((d, .bj es) :: Γ) s) : aM G Γ s /\ Rep (bc G Γ) s.heap (.ref d) (ar G.w.params es) := by
 k_dflt obtain ⟨ns, bZ, k, e, sk, rs, nd⟩ := S.at .here
 exact ⟨(ao.drop (.refl Γ)).sim S, .dS ⟨d, bZ, k, rfl, ns, e, jl S, sk, rs.weak (.drop (.refl Γ)), nd⟩⟩
def Tr.zi {m : Sem Value} {s : Shared} (h : Tr G A X m Rep Γ (fun v ae => ∃ a, v = .raw (.ref a) /\ ae = (a, .bj es) :: Γ) s) (q : Q (ar G.w.params es) Γ) : Tr G A X m Rep Γ Q s :=
 h.seq fun v x ag ay r ax aG zz => by
  obtain ⟨a, e, e'⟩ := zz
  subst e; subst e'; apply Rep.bX r
  obtain ⟨bp, r⟩ := kG ax
  exact ⟨_, _, r, bp, aG.trans (ao.drop (.refl _)).step, q⟩
def WE.rm (q : Q (ar G.w.params []) Γ) : WE G A X env (.Dict [] [] pos) Γ Q := .mk fun s S =>
 Tr.zi ((WE.fQ (Q := fun v ae => ∃ a, v = .raw (.ref a) /\ ae = (a, .bj []) :: Γ) fun a => ⟨a, rfl, rfl⟩).go s S) q
def pJ {w : PySem.World} {prog : Program} {E : Value -> Shared -> Prop} {kvs : List (Str × Value)} {k : Str} {t : Tok} {v : Value} {P : Unit -> Shared -> Prop} (hm : s.heap.DictOf (PySem.strKind prog w) d kvs) (hz : kvs.length <= sizeLine)
  (h : ∀ h', h'.DictOf (PySem.strKind prog w) d (stored kvs k v) -> Heap.SameBut d s.heap h' -> P () { s with heap := h', toks := s.toks + 1 }) : wpAny (model prog w) A (setItem (.ref d) (.str k t) v) P E s := by
 unfold setItem
 try with_reducible refine wpAny_holding ?_
 first | refine wpAny_bind (wpAny_pure ?_) | skip
 refine wpAny_bind (wpAny_sequenceKey hm.typeIs (by decide) ?_)
 refine wpAny_bind (wpAny_callSpecial?_slot (name := oS "__setitem__") hm.typeIs PySem.F.slot_dict_setitem
  (call_meetsIn PySem.F.slot_dict_setitem hm.typeIs PySem.F.entry_dict_setitem (PySem.F.args_dict_setitem_3 _ _ _) (meets_dict_setitem_pairs (PySem.strKind prog w) d (strKind_is prog w k t) v) ⟨kvs, hm, hz, fun h' sU yK => ?_⟩))
 exact wpAny_pure (h h' sU yK)
def WK.dict {k : Str} {y : AV} {Q : aa -> Prop} (p : aC d (.bj es) Γ R) (hz : es.length <= sizeLine) (q : Q ((d, .bj (bN es k y)) :: R)) : WK G A X (.raw (.ref d)) (.str k) y Γ Q := .mk fun s ov iv vv S ro ri rv => by
 apply Rep.bX ro; apply Rep.qN ri; intro t
 k_dflt obtain ⟨ns, bZ, j, e, sk, rs, nd⟩ := S.at p
 have hm := jr (G := G) e sk nd
 have hl : ((es.map (·.1)).zip (bZ.toList.map (·.val))).length <= sizeLine := by
  have := sk.length
  rw [List.length_map] at this
  rw [List.length_zip, List.length_map, List.length_map, this, Nat.min_self]; exact hz
 refine pJ hm hl fun h' sU hs => ?_
 have st := lT (k := k) (y := y) rv nd rs
 k_dflt obtain ⟨Bw, j', e', F0, hv, dg⟩ := ig sU
 have z := S.change (s' := { s with heap := h', toks := s.toks + 1 }) (o' := .bj (bN es k y)) p hs rfl rfl fun kk => by
  refine ⟨ns, Bw, j', e', ?_, ?_, fP nd⟩
  .rw [<- st.1]; exact F0
  .rw [hv]; exact st.2.keep kk
 exact .here rfl z.1 z.2 q
end
end
section
inductive tc : List (Str × AV) -> Str -> AV -> List (Str × AV) -> Prop
 | nil {k y} : tc [] k y [(k, y)]
 | here {k z y m} : tc ((k, z) :: m) k y ((k, y) :: m)
 | there {k' z k y m m'} : k' ≠ k -> tc m k y m' -> tc ((k', z) :: m) k y ((k', z) :: m')
def tc.eq {m m' : List (Str × AV)} {k : Str} {y : AV} (h : tc m k y m') : bN m k y = m' := by
 induction h with
 | nil => rfl
 | here => dsimp only [bN]; exact (if_pos rfl)
 | there hk _ ih => dsimp only [bN]; rw [if_neg hk, ih]
section
variable {env : Env} {pos : Pos} {Γ ag ai R R' : aa} {s s' : Shared} {n : Nat} {Q : AV -> aa -> Prop} {a d C : Addr} {es m m' : List (Str × AV)}
structure WG (G : Base) (name : Str) (y ov : AV) (Γ : aa) (Q : aa -> Prop) : Prop where
 go : ∃ a d C m R R', ov = .raw (.ref a) /\ aC a (.inst C d) Γ R /\ aC d (.fld m) Γ R' /\ fO G.K C name = true /\ m.length <= 100 /\ Q ((d, .fld (bN m name y)) :: R')
def WG.own {name : Str} {y : AV} {Q : aa -> Prop} (p : aC a (.inst C d) Γ R) (p' : aC d (.fld m) Γ R') (hs : fO G.K C name = true) (pf : tc m name y m') (hl : m.length <= 100) (q : Q ((d, .fld m') :: R')) : WG G name y (.raw (.ref a)) Γ Q :=
 .mk ⟨a, d, C, m, R, R', rfl, p, p', hs, hl, by rw [pf.eq]; exact q⟩
abbrev JJ (G : Base) (name : Str) (y : AV) (Q : aa -> Prop) (ov : AV) (Γ : aa) : Prop := WG G name y ov Γ Q
def WA.field {o : Expr} {name : Str} {y : AV} {Γ : aa} {Q : aa -> Prop} (h : WE G A X env o Γ (JJ G name y Q)) : WA G A X env (.Attribute o name pos) y Γ Q :=
 WA.attr (.mk fun s S => (h.go s S).mono fun ov ag q => q.go)
noncomputable def j3 (e : Expr) : Bool := e.ctorIdx != 16
def td {o : Expr} {name : Str} {whole : Sem Value} (h : j3 o = true) : attributeBase o name env whole = whole := by
 cases o <;> first | rfl | contradiction
def vi {o : Expr} {name : Str} (h : j3 o = true) : eval (.Attribute o name pos) env = (do
   let ov <- eval o env
   standAt pos.atName
   let r <- holding [ov] (getAttr ov name true)
   letTemporaryGo o ov r
   pure r) := by
 show (do
   let ov <- attributeBase o name env (eval o env)
   standAt pos.atName
   let r <- holding [ov] (getAttr ov name true)
   letTemporaryGo o ov r
   pure r) = _
 rw [td h]
structure WR (G : Base) (name : Str) (x : AV) (Γ : aa) (Q : AV -> aa -> Prop) : Prop where
 go : ∃ C m y, lV G Γ x C m /\ bH m name = some y /\ fN G.K C name = true /\ y.handed = true /\ Q y Γ
theorem WR.own {name : Str} {y : AV} (p : aC a (.inst C d) Γ R) (p' : aC d (.fld m) Γ R') (hg : bH m name = some y) (hf : fN G.K C name = true) (hh : y.handed = true) (q : Q y Γ) : WR G name (.raw (.ref a)) Γ Q := .mk ⟨C, m, y, .own p p', hg, hf, hh, q⟩
theorem WR.d8 {name : Str} {y : AV} (hg : bH m name = some y) (hf : fN G.K C name = true) (hh : y.handed = true) (q : Q y Γ) : WR G name (gj G.w.params C m) Γ Q := .mk ⟨C, m, y, .d8, hg, hf, hh, q⟩
abbrev JK (G : Base) (name : Str) (Q : AV -> aa -> Prop) (x : AV) (Γ : aa) : Prop := WR G name x Γ Q
def WE.field {o : Expr} {name : Str} {Γ : aa} {Q : AV -> aa -> Prop} (h : WE G A X env o Γ (JK G name Q))
  (he : autoParam (j3 o = true) aU) : WE G A X env (.Attribute o name pos) Γ Q :=
 WE.attr (.mk fun s S => (h.go s S).mono fun ov ag q => q.go) (vi he)
end
end
section
section
variable {env : Env} {pos : Pos} {Γ ag ai R R' : aa} {s s' : Shared} {n : Nat} {a d C : Addr}
def lW (Inv : Nat -> aa -> Prop) (k : Nat) (Q : aN -> aa -> Prop) (fl : aN) (fH : aa) : Prop := match fl with
 | .next => ∃ cy j, ao fH cy /\ j < k /\ Inv j cy
 | .cont => ∃ cy j, ao fH cy /\ j < k /\ Inv j cy
 | .brk => ∃ cy, ao fH cy /\ Q .next cy
 | .ret v => ∃ cy, ao fH cy /\ Q (.ret v) cy
def zj {fH cy : aa} {Inv : Nat -> aa -> Prop} {k j : Nat} (w : ao fH cy) (h : j < k) (i : Inv j cy) : ∃ cy j, ao fH cy /\ j < k /\ Inv j cy := ⟨cy, j, w, h, i⟩
def lX {test : Expr} {body : List Stmt} {Q : aN -> aa -> Prop} (Inv : Nat -> aa -> Prop)
  (turn : ∀ k ae, Inv k ae -> WT G A (notedBy G.M A env X) env test ae fun b fJ => match b with | true => WS G A (notedBy G.M A env X) env body fJ (lW Inv k Q) | false => Q .next fJ) (cY : aa) (h₀ : Heap) :
  ∀ (k : Nat) (ae : aa) (s : Shared), aM G ae s -> Inv k ae -> Step G cY h₀ ae s.heap -> codeAny G.M A (.whileLoop test body [] env) (fun r s' => match r with | .ok f => gv G cY h₀ jW Q f s' | .error e => X e s') s := by
 intro k
 induction k using Nat.strongRecOn with
 | _ k ih =>
  intro ae s S hI T
  refine codeAny_of_tree ?_
  show wpAny _ A ((whileTurn test body [] env).onRaise (fun x => do noteFrame x env; theTreesLotGoes x)) _ _ s
  refine wpAny_noted ?_
  unfold whileTurn
  refine wpAny_bind (((turn k ae hI).go s S).seq fun x b ag ay e ax aG bk => ?_)
  k_dflt subst e
  induction x with
  | false =>
   skip
   refine wpAny_bind (wpAny_execs_nil (wpAny_pure ?_))
   exact ⟨.next, ag, .next, ax, T.trans aG, bk⟩
  | true =>
   refine wpAny_bind ((WS.go bk ay ax).seq fun fl af fH aW rf bp bx q => ?_)
   have wG : (∃ cy j, ao fH cy /\ j < k /\ Inv j cy) -> codeAny G.M A (.whileLoop test body [] env) (fun r s' => match r with | .ok f => gv G cY h₀ jW Q f s' | .error e => X e s') aW := fun ⟨cy, j, w, hj, qK⟩ =>
    ih j hj cy aW (w.sim bp) qK (((T.trans aG).trans bx).trans w.step)
   induction rf with
   | next => exact wpAny_pure (And.intro rfl (wG q))
   | cont => exact wpAny_pure (And.intro rfl (wG q))
   | brk =>
    obtain ⟨cy, w, q⟩ := q
    exact wpAny_pure ⟨.next, cy, .next, w.sim bp, ((T.trans aG).trans bx).trans w.step, q⟩
   | ret r =>
    k_dflt obtain ⟨cy, w, q⟩ := q
    exact wpAny_pure ⟨.ret _, cy, .ret (r.weak w), w.sim bp, ((T.trans aG).trans bx).trans w.step, q⟩
def W1.while {test : Expr} {body : List Stmt} {Q : aN -> aa -> Prop} (Inv : Nat -> aa -> Prop) (h : ∃ k, Inv k Γ)
  (turn : ∀ X' k ae, Inv k ae -> WT G A X' env test ae fun b fJ => match b with | true => WS G A X' env body fJ (lW Inv k Q) | false => Q .next fJ) : W1 G A X env (.While test body [] pos) Γ Q := .mk fun s S => by
 obtain ⟨k, hk⟩ := h
 show wpAny _ _ (exec (.While test body [] pos) env) _ _ _
 rw [exec_While]
 exact wpAny_bind (wpAny_standAt (wpAny_runOwn (lX Inv (turn _) Γ s.heap k Γ s S hk .refl)))
def W1.xc {test : Expr} {body : List Stmt} {Q : aN -> aa -> Prop} (Inv : Nat -> aa -> Prop) (h : ∃ k, Inv k Γ)
  (turn : ∀ k ae, Inv k ae -> WT G A (notedBy G.M A env (cameBackBy G.M A env X)) env test ae fun b fJ => match b with | true => WS G A (notedBy G.M A env (cameBackBy G.M A env X)) env body fJ (lW Inv k Q) | false => Q .next fJ) : W1 G A X env (.While test body [] pos) Γ Q := .mk fun s S => by
 obtain ⟨k, hk⟩ := h
 show wpAny _ _ (exec (.While test body [] pos) env) _ _ _
 rw [exec_While]
 exact wpAny_bind (wpAny_standAt (wpAny_runOwn (lX Inv turn Γ s.heap k Γ s S hk .refl)))
end
end
section
section
variable {prog : Program} {w : PySem.World} {A : Around} {E : Value -> Shared -> Prop} {R : Result -> Shared -> Prop} {h : Heap} {g : Array GenState} {d : PySem.Drawn} {t : Nat} {os : OsState}
variable {nm q : Str} {C N : Addr} {bs bm : List Value} {jt : Bool} {sn : List Str} {sub : List Value} {ab : Bool} {col : Option Bool} {dd : Option Addr} {k0 k1 k2 k3 k5 : Option Value}
noncomputable def fR (C : Addr) (bm : List Value) : Bool := (Value.ref C :: bm).contains (.type "Exception") && (Value.ref C :: bm).contains (.type "BaseException") && !(Value.ref C :: bm).contains (.type "AttributeError") && !(Value.ref C :: bm).contains (.type "NameError")
def nz {M : Model} {rest : List Value} {Q : Unit -> Shared -> Prop} (hC : h.get? C = some (excClassObj nm q C N bs bm jt sn sub ab col dd k0 k1 k2 k3 k5 "Exception.__new__"))
  (hm : (Value.ref C :: bm).contains (.type "Exception") = true) (hq : Q () ⟨h, g, d, t, os⟩) : wpAny M A (checkBuiltinCall "Exception.__new__" ⟨.ref C :: rest, []⟩) Q E ⟨h, g, d, t, os⟩ := by
 have F := PySem.F.excBase_Exception
 have HI := F.noStar
 simp only [checkBuiltinCall, F.newKind, F.newSplit, F.newRow]
 repeat (first | (tm_at "gI"; refine wpAny_isSubtype_exc hC ?_; rw [hm]) | tm_at "gS"; refine wpAny_staticBase_exc hC ?_ | tm_at "gM"; refine wpAny_madeBy_exc hC ?_ | simp only [bne_self_eq_false, Bool.false_eq_true, if_false] | tm_at "wp")
 exact hq
def zk {rest : List Value} (hC : h.get? C = some (excClassObj nm q C N bs bm jt sn sub ab col dd k0 k1 k2 k3 k5 "Exception.__new__")) (hm : fR C bm = true)
  (hq : R (.ok (.ret (.ref (h.objs.size + 1)))) ⟨(h.push { cls := .type "tuple", data := .seq rest.toArray }).push
   { cls := .ref C, data := .fields #[.ref h.objs.size, .none, .none, .none, .bool false, .none] }, g, d, t, os⟩) (kH : rest.length <= sizeLine) :
  codeAny (model prog w) A (.builtin "Exception.__new__" ⟨.ref C :: rest, []⟩) R ⟨h, g, d, t, os⟩ := by
 have F := PySem.F.excBase_Exception
 have HJ := F.ends
 unfold fR at hm
 simp only [Bool.and_eq_true, Bool.not_eq_true'] at hm
 obtain ⟨⟨⟨h1, h2⟩, h3⟩, h4⟩ := hm
 refine PySem.codeAny_builtinAt F.entry ?_
 unfold Builtin.«BaseException.__new__»
 refine PySem.wpAt_bind ?_
 show PySem.wpAt _ _ _ (stack >>= _) _ _ _
 refine PySem.wpAt_bind (PySem.wpAt_stack fun p below => PySem.wpAt_of_wpAny ?_)
 (repeat tm_at "wp")
 refine PySem.wpAt_of_wpAny ?_
 rw [F.owner]
 repeat (first | tm_at "gH"; refine wpAny_madeHere_exc F.canon hC ?_ | (tm_at "gI"; refine wpAny_isSubtype_exc hC ?_; first | rw [h1] | rw [h3] | rw [h4]) | tm_at "wp")
 show R _ _
 rw [Heap.size_push]
 exact hq
noncomputable abbrev bA (C : Addr) (dx : Option Addr) (t : Addr) : Obj := { cls := .ref C, dict := dx, data := .fields #[.ref t, .none, .none, .none, .bool false, .none] }
def nC {K : Frag} {rest : List Value} {fI : Addr} {Q : PySem.Fin -> Shared -> Prop} (X : K.In h) (hC : h.get? C = some (excClassObj nm q C N bs bm jt sn sub ab col dd k0 k1 k2 k3 k5 "Exception.__new__")) (hm : fR C bm = true)
  (hi : findIn K (.ref C) "__init__" = some (some (.ref fI))) (hf : typeIn K (.ref fI) = some (.type "function")) (kH : rest.length <= sizeLine)
  (hq : wpAny (model prog w) A (call (.ref fI) (.ref (h.objs.size + 1) :: rest)) (fun r s' => r = .none /\ Q (.done (.ret (.ref (h.objs.size + 1)))) s') E
   ⟨(h.push { cls := .type "tuple", data := .seq rest.toArray }).push (bA C none h.objs.size), g, d, t, os⟩) :
  wpAny (model prog w) A (Builtin.«type.__call__» ⟨.ref C :: rest, []⟩) Q E ⟨h, g, d, t, os⟩ := by
 have F := PySem.F.excBase_Exception
 have sU := hm
 unfold fR at sU
 simp only [Bool.and_eq_true, Bool.not_eq_true'] at sU
 obtain ⟨⟨⟨h1, h2⟩, h3⟩, h4⟩ := sU
 repeat (first | tm_at "gM"; refine wpAny_madeBy_exc hC ?_ | tm_at "wp")
 refine codeAny_call_builtin_code (Code.quiet_builtin _ F.quiet) (nz hC h1 ?_)
 refine zk hC hm ?_ kH
 show wpAny _ _ _ _ _ _
 have k : ∀ b o, h.get? b = some o -> ((h.push { cls := .type "tuple", data := .seq rest.toArray }).push { cls := .ref C, data := .fields #[.ref h.objs.size, .none, .none, .none, .bool false, .none] }).get? b = some o :=
  fun b o e => Heap.get?_push_of_some _ (Heap.get?_push_of_some _ e)
 have Df := k _ _ hC
 have Bx : K.In ((h.push { cls := .type "tuple", data := .seq rest.toArray }).push { cls := .ref C, data := .fields #[.ref h.objs.size, .none, .none, .none, .bool false, .none] }) := fun a o e => k a o (X a o e)
 have vj : ((h.push { cls := .type "tuple", data := .seq rest.toArray }).push
   { cls := .ref C, data := .fields #[.ref h.objs.size, .none, .none, .none, .bool false, .none] }).get? (h.objs.size + 1) = some
   { cls := .ref C, data := .fields #[.ref h.objs.size, .none, .none, .none, .bool false, .none] } := by heap_get
 have JL : (Value.ref C :: bm).contains (.ref C) = true := by simp
 unfold isInstance
 repeat (first | (tm_at "gI"; refine wpAny_isSubtype_exc Df ?_; rw [JL]) | tm_at "wp")
 show wpAny _ _ (typeLookup (.ref C) _) _ _ _
 refine (looks_findIn Bx hi).here ?_
 refine wpAny_holding (wpAny_bind ((bind_fn Bx _ hf).here ?_))
 refine wpAny_bind (wpAny_mono hq (fun r s' hr => ?_) fun _ _ x => x)
 obtain ⟨rfl, hQ⟩ := hr
 (repeat tm_at "wp")
 exact hQ
def xd {K : Frag} {rest : List Value} {fI : Addr} {Q : Value -> Shared -> Prop} (X : K.In h) (hC : h.get? C = some (excClassObj nm q C N bs bm jt sn sub ab col dd k0 k1 k2 k3 k5 "Exception.__new__")) (hm : fR C bm = true)
  (hi : findIn K (.ref C) "__init__" = some (some (.ref fI))) (hf : typeIn K (.ref fI) = some (.type "function")) (kH : rest.length <= sizeLine)
  (hq : wpAny (model prog w) (A.under (.builtin "type.__call__" ⟨.ref C :: rest, []⟩)) (call (.ref fI) (.ref (h.objs.size + 1) :: rest)) (fun r s' => r = .none /\ Q (.ref (h.objs.size + 1)) s') E
   ⟨(h.push { cls := .type "tuple", data := .seq rest.toArray }).push (bA C none h.objs.size), g, d, t, os⟩) :
  wpAny (model prog w) A (call (.ref C) rest) Q E ⟨h, g, d, t, os⟩ := by
 have f1 := tc_lookup
 have f2 := tc_bind (.ref C)
 have hT : (⟨h, g, d, t, os⟩ : Shared).TypeIs (.ref C) "type" := ⟨_, hC, rfl⟩
 refine wpAny_call (codeAny_of_tree ?_)
 show wpAny _ _ (callAny (.ref C) _) _ _ _
 repeat (any_goals (first | tm_at "ra" | tm_at "wp"))
 refine ⟨rfl, ?_⟩
 exact codeAny_call_builtin_at (Code.quiet_builtin _ (by tm_at "dk")) entry_typeCall (wpAny_check_type_call_sub hC (nC X hC hm hi hf kH hq))
end
end
section
set_option backward.match.sparseCases false
noncomputable def xe : List Value := [.type "Exception", .type "BaseException", .type "object"]
noncomputable def eR (l : List Value) : Bool := decide (l = (l.filterMap PySem.Numpy.addrOf?).map .ref ++ xe)
def eR.ex {l : List Value} (h : eR l = true) : ∃ r : List Addr, l = r.map .ref ++ xe := ⟨_, of_decide_eq_true h⟩
def te (self : Value) {l : List Value} (h : eR l = true) : PySem.refuseLoop self "__setattr__" l = pure () := by
 obtain ⟨r, rfl⟩ := eR.ex h
 clear h
 induction r with
 | nil => exact PySem.F.store_Exception.passes self
 | cons c r ih => exact (PySem.refuseLoop_ref ..).trans ih
def zm {l : List Value} (h : eR l = true) : l.contains (.type "object") = true := by
 obtain ⟨r, rfl⟩ := eR.ex h
 exact List.contains_iff_mem.mpr (List.mem_append_right _ (.tail _ (.tail _ (.head _))))
def Bz {l : List Value} (h : eR l = true) : l.isEmpty = false := by
 cases l with
 | nil => exact absurd h (by decide)
 | cons => rfl
noncomputable def cP (K : Frag) (C : Addr) (name : Str) : Bool := findIn K (.ref C) "__setattr__" == some (some (.builtin "object.__setattr__")) && (clsIn K C).any (fun cd => eR cd.mro && cd.hasDict) && takerIn K C name == some none
section
variable {prog : Program} {w : PySem.World} {A : Around} {E : Value -> Shared -> Prop} {s : Shared} {K : Frag} {x C dx : Addr}
def kI {ox : Obj} {od : Option Obj} {name : Str} {v : Value} {Q : Unit -> Shared -> Prop} (X : K.In s.heap) (I : InstAt s.heap x ox C od) (hs : cP K C name = true)
  (h : ∀ cd b, clsIn K C = some cd -> cd.hasDict = true -> wpAny (model prog w) A.in1 (PySem.Builtin.ObjectAttr.storeInOwnDict (.ref x) (.ref C) (.str name s.toks) name v b)
   (fun fin s' => match fin with | .done (.ret _) => Q () s' | _ => False) E { s with toks := s.toks + 1 }) : wpAny (model prog w) A (setAttr (.ref x) name v) Q E s := by
 unfold cP at hs
 simp only [Bool.and_eq_true, beq_iff_eq] at hs
 obtain ⟨⟨f1, f2⟩, f3⟩ := hs
 obtain ⟨cd, hc, ho⟩ := any_some f2
 simp only [Bool.and_eq_true] at ho
 obtain ⟨ho, hd⟩ := ho
 refine set_plain X I f1 ?_
 have SF := PySem.F.store_object
 have ne := Bz ho
 have sub : Looks (model prog w) s.heap (isInstance (.ref x) (.type "object")) true := I.type.andThen (looks_mroIn X (by unfold mroIn; rw [hc, Option.bind_some, if_neg (by rw [ne]; decide), zm ho]))
 refine codeAny_call_builtin SF.slot.plain SF.entry (@check_slot (model prog w) _ _ { s with toks := s.toks + 1 } "object.__setattr__" "object" "__setattr__" (.ref x) [.str name s.toks, v] [] _ SF.kind SF.split sub (SF.args (.ref x) (.str name s.toks) v) ?_)
 k_dflt obtain ⟨attr, ha, hr⟩ := Option.bind_eq_some_iff.mp f3
 have hm : Looks (model prog w) s.heap (mroOf (.ref C)) cd.mro := (looks_clsIn X hc).andThen .now
 have L3 : Looks (model prog w) s.heap (PySem.Builtin.ObjectAttr.storeTaker? attr) none := by
  cases attr with
  | none => exact .now
  | some a =>
   obtain ⟨b, hb, q⟩ := Option.map_eq_some_iff.mp hr
   refine (looks_takesIn X hb).andThen ?_
   cases b
   .exact .now
   .contradiction
 rw [osa_eq, PySem.refuse_eq]
 refine wpAny_bind (wpAny_bind (I.type.here (s := { s with toks := s.toks + 1 }) (wpAny_bind (hm.here (s := { s with toks := s.toks + 1 }) ?_))))
 refine (te _ ho) ▸ ?_
 refine wpAny_pure (wpAny_bind (I.type.here (s := { s with toks := s.toks + 1 }) (wpAny_bind ((looks_findIn (h := s.heap) X ha).here (s := { s with toks := s.toks + 1 }) (wpAny_bind (L3.here (s := { s with toks := s.toks + 1 }) ?_))))))
 refine wpAny_mono (h cd _ hc hd) (fun fin s' z => ?_) fun _ _ z => z
 rcases fin with (v | _ | _ | _) | _ <;> first | exact z | exact z.elim
set_option tactic.hygienic true in
def lY {name : Str} {tk : Tok} {v : Value} {es : List DictEntry} {k : Nat} {Q : PySem.Fin -> Shared -> Prop} (e2 : s.heap.get? dx = some (dictOf es k)) (hl : (getL name es).isSome = true)
  (hz : (putL name (PyData.keyHash w.params name) (.str name s.toks) v es).length <= 1000)
  (h : ∀ h' k', h'.get? dx = some (dictOf (putL name (PyData.keyHash w.params name) (.str name s.toks) v es) k') -> Heap.SameBut dx s.heap h' -> Q (.done (.ret .none)) { s with heap := h', toks := s.toks + 1 }) :
  wpAny (model prog w) A (PySem.Builtin.ObjectAttr.storeInDict dx (.str name tk) name v) Q E s := by
 have hp := putName_dict name (PyData.keyHash w.params name) (.str name s.toks) v es k
 have D' : (s.heap.update dx (Obj.putName name (PyData.keyHash w.params name) (.str name s.toks) v)).get? dx = some (dictOf (putL name (PyData.keyHash w.params name) (.str name s.toks) v es) (putN name es k)) := by
  rw [Heap.get?_update_self _ e2 (by rw [hp]; rfl), hp]
 refine wpAny_bind (wpAny_pure (wpAny_bind ?_))
 unfold nsSet
 refine wpAny_bind (wpAny_bind (wpAny_askSetting (wpAny_pure (wpAny_bind (wpAny_mkText (wpAny_bind (wpAny_loadPart e2 ?_)))))))
 dsimp only
 have c : (!es.toArray.any (·.key.isStr name) && es.toArray.any (·.refKey)) = false := by
  refine Array.any_toList ▸ Array.any_toList ▸ ?_
  unfold getL at hl
  split at hl
  .rename_i en he
   rw [List.any_eq_true.mpr ⟨en, List.mem_of_find?_eq_some he, List.find?_some he⟩]; rfl
  .split at hl
   .contradiction
   .rename_i z; rw [Bool.not_eq_true] at z; rw [z, Bool.and_false]
 rw [aRefKeyMayBeTheName_at, c]
 refine wpAny_updatePart e2 ?_
 refine wpAny_bind (wpAny_lookBehind D' (pastItsLine_dict (by rw [List.size_toArray, sizeLine_eq]; tm_at "o")) ?_)
 exact wpAny_pure (h _ _ D' (Heap.SameBut.update ..))
def xf {t : Addr} (e : s.heap.get? x = some (bA C none t)) : InstAt s.heap x (bA C none t) C none := ⟨e, rfl, rfl, trivial⟩
def rn {name : Str} {v : Value} {t : Addr} {Q : Unit -> Shared -> Prop} (X : K.In s.heap) (e1 : s.heap.get? x = some (bA C none t)) (hs : cP K C name = true)
  (h : ∀ h' k', h'.get? s.heap.objs.size = some (dictOf [⟨PyData.keyHash w.params name, .str name (s.toks + 1), v⟩] k') -> h'.get? x = some (bA C (some s.heap.objs.size) t) -> (∀ b o, b ≠ x -> s.heap.get? b = some o -> h'.get? b = some o) ->
   Q () { s with heap := h', toks := s.toks + 2 }) : wpAny (model prog w) A (setAttr (.ref x) name v) Q E s := by
 refine kI X (xf e1) hs fun cd b hc hd => ?_
 have AF : x ≠ s.heap.objs.size := Nat.ne_of_lt (Heap.lt_size e1)
 skip
 refine wpAny_bind (wpAny_pure (wpAny_bind ?_))
 skip
 skip
 refine wpAny_bind (wpAny_loadPart (s := { s with toks := s.toks + 1 }) e1 ?_)
 refine wpAny_bind ((looks_clsIn X hc).here (s := { s with toks := s.toks + 1 }) ?_)
 rw [hd]
 refine wpAny_bind (wpAny_alloc' ?_)
 have AG : (s.heap.push { cls := .type "dict", data := .dict #[] }).get? x = some (bA C none t) := Heap.get?_push_of_some _ e1
 refine wpAny_bind (wpAny_update' AG ?_)
 refine wpAny_pure ?_
 have Dg : ((s.heap.push { cls := .type "dict", data := .dict #[] }).update x fun o => { o with dict := some s.heap.objs.size }).get? x = some (bA C (some s.heap.objs.size) t) := Heap.get?_update_self _ AG rfl
 have Dh : ((s.heap.push { cls := .type "dict", data := .dict #[] }).update x fun o => { o with dict := some s.heap.objs.size }).get? s.heap.objs.size = some (dictOf [] 0) :=
  (Heap.get?_update_other _ _ AF).trans (Heap.get?_push_size _ rfl)
 refine lY (es := []) (k := 0) Dh rfl (Nat.le_of_ble_eq_true rfl) fun h' k' g ue => ?_
 refine h h' k' g ((ue.2 x AF).trans Dg) fun b o hb e => ?_
 exact (ue.2 b (Nat.ne_of_lt (Heap.lt_size e))).trans ((Heap.get?_update_other _ _ (Ne.symm hb)).trans (Heap.get?_push_of_some _ e))
def th {name : Str} {v : Value} {t : Addr} {es : List DictEntry} {k : Nat} {Q : Unit -> Shared -> Prop} (X : K.In s.heap) (e1 : s.heap.get? x = some (bA C (some dx) t)) (e2 : s.heap.get? dx = some (dictOf es k)) (hs : cP K C name = true) (hl : (getL name es).isSome = true)
  (hz : (putL name (PyData.keyHash w.params name) (.str name (s.toks + 1)) v es).length <= 1000)
  (h : ∀ h' k', h'.get? dx = some (dictOf (putL name (PyData.keyHash w.params name) (.str name (s.toks + 1)) v es) k') -> Heap.SameBut dx s.heap h' -> Q () { s with heap := h', toks := s.toks + 2 }) :
  wpAny (model prog w) A (setAttr (.ref x) name v) Q E s := by
 refine kI X (ox := bA C (some dx) t) (od := some (dictOf es k)) ⟨e1, rfl, rfl, e2⟩ hs fun cd b hc hd => ?_
 skip
 refine wpAny_bind (wpAny_pure (wpAny_bind ?_))
 skip
 skip
 refine wpAny_bind (wpAny_loadPart (s := { s with toks := s.toks + 1 }) e1 ?_)
 refine wpAny_bind ((looks_clsIn X hc).here (s := { s with toks := s.toks + 1 }) ?_)
 rw [hd]
 refine wpAny_pure ?_
 exact lY e2 hl hz h
end
section
variable {prog : Program} {w : PySem.World} {A : Around} {E : Value -> Shared -> Prop} {h : Heap} {g : Array GenState} {d : PySem.Drawn} {t : Nat} {os : OsState}
variable {nm q : Str} {C N : Addr} {bs bm : List Value} {jt : Bool} {sn : List Str} {sub : List Value} {ab : Bool} {col : Option Bool} {dd : Option Addr} {k0 k1 k2 k3 k5 : Option Value}
def vl {e t0 : Addr} {v : Value} {Q : Value -> Shared -> Prop} (hC : h.get? C = some (excClassObj nm q C N bs bm jt sn sub ab col dd k0 k1 k2 k3 k5 "Exception.__new__")) (hm : fR C bm = true) (he : h.get? e = some (bA C none t0))
  (hq : ∀ h' t1, h'.get? e = some (bA C none t1) -> (∀ b o, b ≠ e -> h.get? b = some o -> h'.get? b = some o) -> Q .none ⟨h', g, d, t, os⟩) :
  wpAny (model prog w) A (call (.builtin "Exception.__init__") [.ref e, v]) Q E ⟨h, g, d, t, os⟩ := by
 have F := PySem.F.excBase_Exception
 unfold fR at hm
 simp only [Bool.and_eq_true, Bool.not_eq_true'] at hm
 k_dflt obtain ⟨⟨⟨h1, h2⟩, h3⟩, h4⟩ := hm
 have JM : ∀ {M : Model} {A : Around} {E : Value -> Shared -> Prop} {Q : Unit -> Shared -> Prop}, Q () ⟨h, g, d, t, os⟩ -> wpAny M A (checkBuiltinCall "Exception.__init__" ⟨[.ref e, v], []⟩) Q E ⟨h, g, d, t, os⟩ := by
  intro M A E Q hq
  have F1 := F.noStar
  simp only [checkBuiltinCall, F.initKind, F.initSplit, F.initRow]
  repeat (first | (tm_at "gI"; refine wpAny_isSubtype_exc hC ?_; rw [h1]) | tm_at "wp")
  exact hq
 refine wpAny_call (codeAny_call_builtin F.init.plain F.initEntry (JM ?_))
 have Ly : e ≠ h.objs.size := Nat.ne_of_lt (Heap.lt_size he)
 have JN : (h.push { cls := .type "tuple", data := .seq [v].toArray }).get? e = some (bA C none t0) := Heap.get?_push_of_some _ he
 have z := hq ((h.push { cls := .type "tuple", data := .seq [v].toArray }).update e (Obj.mapFields (·.setIfInBounds 0 (.ref h.objs.size)))) h.objs.size
  (by rw [Heap.get?_update_self _ JN rfl]; rfl) (fun b o hb q => (Heap.get?_update_other _ _ (Ne.symm hb)).trans (Heap.get?_push_of_some _ q))
 (repeat tm_at "wp")
 exact z
end
end
section
set_option backward.match.sparseCases false
def j4 (v : Value) : Prop := v = .ref 39 \/ v = .ref 52
def Di (B : Heap) (fs : List Env) (e : Addr) (cls a0 : Value) (h : Heap) : Prop :=
 B.StaysIn h /\ B.get? e = none /\ h.FunFrames B fs /\ ∃ oe vs, h.get? e = some oe /\ oe.cls = cls /\ oe.data = .fields vs /\ vs[0]? = some a0 /\ vs[1]? = some .none
def pK (B : Heap) (fs : List Env) (e : Addr) (h : Heap) : Prop :=
 ∃ cls a0, j4 cls /\ (Di B fs e cls a0 h \/ Heap.FlyingW B fs e cls a0 h \/ ∃ env outer L, fs = env :: outer /\ env.frame = some L /\ Heap.HeldW B fs e cls a0 L h)
section
variable {M : Model} {A : Around} {E : Value -> Shared -> Prop} {s : Shared} {B : Heap} {env : Env} {outer : List Env} {L e : Addr}
def pL {Q : Unit -> Shared -> Prop} (vm : A.frames = some (env :: outer)) (hf : env.frame = some L) (t : pK B (env :: outer) e s.heap)
  (hQ : ∀ h' cls a0, j4 cls -> Heap.HeldW B (env :: outer) e cls a0 L h' -> s.heap.UpToSlots h' -> Q () { s with heap := h' }) : wpAny M A (noteFrame (.ref e) env) Q E s := by
 k_dflt obtain ⟨cls, a0, hc, t⟩ := t
 k_dflt rcases t with ⟨f1, f2, f3, oe, vs, he, ti, hd, h0, h1⟩ | t | ⟨fS, F2, L', e1, e2, t⟩
 .unfold noteFrame
  simp only [hf]
  refine wpAny_bind (wpAny_field he hd h1 ?_)
  rw [if_neg (by decide)]
  refine wpAny_entryW vm f3 hf he f1 f2 hd (Array.getElem?_eq_some_iff.mp h1).1 h0 fun h' ⟨k1, k2, k3, k4⟩ => ?_
  exact hQ h' cls a0 hc ⟨k1, f2, k2, ti ▸ k3⟩ k4
 .exact wpAny_looks_onW vm hf t fun h' k u => hQ h' cls a0 hc k u
 .cases e1
  replace e2 := hf ▸ e2; obtain rfl := Option.some.inj e2
  exact wpAny_noteFrame_againW hf t.2.2.2 (by obtain ⟨hp, g, d, tk, os⟩ := s; exact hQ hp cls a0 hc t (.refl _))
def xg {Q : Unit -> Shared -> Prop} (vm : A.frames = some (env :: outer)) (hf : env.frame = some L) (t : pK B (env :: outer) e s.heap)
  (hQ : ∀ h', pK B outer e h' -> s.heap.UpToSlots h' -> Q () { s with heap := h' }) : wpAny M A (leaving env (.ref e)) Q E s := by
 unfold leaving
 refine wpAny_bind (pL vm hf t fun h' cls a0 hc k u => ?_)
 refine wpAny_landsW k fun iD f u' => ?_
 k_dflt obtain ⟨k1, k2, ⟨_, _, k3⟩, k4⟩ := f
 exact hQ iD ⟨cls, a0, hc, .inr (.inl ⟨k1, k2, k3, k4⟩)⟩ (u.trans u')
def vn {Q : Unit -> Shared -> Prop} {cls a0 : Value} (hf : env.frame = some L) (t : Heap.HeldW B (env :: outer) e cls a0 L s.heap)
  (hQ : ∀ h', Heap.HeldW B (env :: outer) e cls a0 L h' -> s.heap.UpToSlots h' -> Q () { s with heap := h' }) : wpAny M A (do
   if (<- field (.ref e) 1) == .none then unsupported "frame.own-activation:exception-without-traceback"
   setFlight (.ref e) env.frame) Q E s := by
 k_dflt obtain ⟨f1, f2, f3, oe, vs, T, oT, ts, he, ti, hd, h1, HL, Ew, hT, Ex, h3⟩ := t
 have Dj : 3 < ts.size := (Array.getElem?_eq_some_iff.mp h3).1
 refine wpAny_bind (wpAny_field he hd h1 ?_)
 refine (if_neg (show ¬ ((Value.ref T == Value.none) = true) from by simp)) ▸ ?_
 try refine wpAny_bind (wpAny_pure ?_)
 unfold setFlight
 refine wpAny_bind (wpAny_field he hd h1 ?_)
 rw [if_pos (show (Value.ref T != Value.none) = true from by rfl), hf]
 have other : ∀ b, b ≠ T -> (s.heap.update T (Obj.mapFields (·.setIfInBounds 3 ((some L : Option Addr).elim Value.none fun f => rawInt f)))).get? b = s.heap.get? b :=
  fun b hb => Heap.get?_update_other _ _ (Ne.symm hb)
 have rp : ∀ b o, s.heap.get? b = some o -> (∀ vs, o.data ≠ .fields vs) -> b ≠ T := fun b o hb Dk q => by
  rw [q, hT] at hb; injection hb with hb; subst hb; exact Dk ts Ex
 refine wpAny_setField hT Ex Dj (hQ _ ⟨fun b o F3 => (other b fun q => by replace F3 := HL ▸ q ▸ F3; contradiction).trans (f1 b o F3), f2,
  f3.of_keeps fun b o hb Dk => ⟨o, (other b (rp b o hb Dk)).trans hb, rfl⟩, ?_⟩ fun b o hb Dk => ⟨o.slots, (other b (rp b o hb Dk)).trans hb⟩)
 exact ⟨oe, vs, T, _, _, (other e (Ne.symm Ew)).trans he, ti, hd, h1, HL, Ew, Heap.get?_update_self _ hT (Obj.isFreed_of_fields (Obj.data_mapFields Ex _)), Obj.data_mapFields Ex _, by simp [Dj]⟩
end
noncomputable def F4 : bG -> Prop
 | .ns _ => True
 | .obj o => ∀ vs, o.data ≠ .fields vs
 | _ => False
structure RX (G : Base) (A : Around) (X : Value -> Shared -> Prop) (bM Γ : aa) : Prop where
 ts : G.ts = []
 ex : ∃ fs, A.frames = some fs /\ (∀ env ∈ fs, env.scope.kind ≠ .module /\ ∃ L o, env.frame = some L /\ (L, o) ∈ Γ /\ F4 o) /\
  ∀ e s, pK G.h fs e s.heap -> (∀ p ∈ bM, ∃ o sl, p.2 = .obj o /\ s.heap.get? p.1 = some { o with slots := sl }) -> s.gens = #[] -> s.os = G.os -> X (.ref e) s
 sub : ∀ p ∈ bM, p ∈ Γ
 old : ∀ p ∈ bM, ∃ o, p.2 = .obj o /\ ∀ vs, o.data ≠ .fields vs
noncomputable abbrev xh (G : Base) (A : Around) (env : Env) (X : Value -> Shared -> Prop) : Value -> Shared -> Prop := notedBy G.M A env (cameBackBy G.M A env X)
section
variable {env : Env} {Γ ae bM R : aa} {s : Shared} {L : Addr}
def xi {h h' : Heap} (hf : ∀ p ∈ bM, ∃ o, p.2 = .obj o /\ ∀ vs, o.data ≠ .fields vs) (u : h.UpToSlots h') (q : ∀ p ∈ bM, ∃ o sl, p.2 = .obj o /\ h.get? p.1 = some { o with slots := sl }) :
  ∀ p ∈ bM, ∃ o sl, p.2 = .obj o /\ h'.get? p.1 = some { o with slots := sl } := fun p hp => by
 k_dflt obtain ⟨o, sl, e1, e2⟩ := q p hp
 obtain ⟨o', e0, hi⟩ := hf p hp
 replace e0 := e1 ▸ e0; cases e0
 obtain ⟨F5, e3⟩ := u _ _ e2 hi
 exact ⟨o, F5, e1, e3⟩
def RX.mono (r : RX G A X bM Γ) (h : ∀ p ∈ Γ, p ∈ ae) : RX G A X bM ae :=
 ⟨r.ts, let ⟨fs, h1, h2, h3⟩ := r.ex; ⟨fs, h1, fun env he => (by refine gF fun Z => ?_; obtain ⟨k, L, o, e1, e2, e3⟩ := h2 env he; exact Z (⟨k, L, o, e1, h _ e2, e3⟩)), h3⟩, fun p hp => h p (r.sub p hp), r.old⟩
def RX.enter {m : List (Str × Option AV)} (r : RX G A X bM Γ) (hk : env.scope.kind = .function) (hf : env.frame = some L) (hm : (L, .ns m) ∈ ae) (h : ∀ p ∈ Γ, p ∈ ae) : RX G (A.deeper env) (sR G A env X) bM ae := by
 k_dflt obtain ⟨ts, ⟨fs, h1, h2, h3⟩, sub, old⟩ := r
 have vm : (A.deeper env).frames = some (env :: fs) := Around.frames_deeper h1
 refine ⟨ts, ⟨env :: fs, vm, fun fS he => ?_, fun e s t q hg ho => ?_⟩, fun p hp => h p (sub p hp), old⟩
 .k_dflt rcases List.mem_cons.mp he with rfl | he
  .exact ⟨by rw [hk]; decide, L, _, hf, hm, trivial⟩
  .k_dflt obtain ⟨k, L', o, e1, e2, e3⟩ := h2 fS he
   exact ⟨k, L', o, e1, h _ e2, e3⟩
 .exact xg vm hf t fun h' t' u => h3 e _ t' (xi old u q) hg ho
def RX.loop {outer : List Env} (r : RX G A X bM Γ) (hA : A.frames = some (env :: outer)) (hf : env.frame = some L) : RX G A (xh G A env X) bM Γ := by
 obtain ⟨ts, ⟨fs, h1, h2, h3⟩, sub, old⟩ := r
 replace h1 := hA ▸ h1; obtain rfl := Option.some.inj h1
 refine ⟨ts, ⟨_, hA, h2, fun e s t q hg ho => ?_⟩, sub, old⟩
 refine pL hA hf t fun h' cls a0 hc k u => ?_
 refine vn (s := { s with heap := h' }) hf k fun iD k' u' => ?_
 exact h3 e _ ⟨cls, a0, hc, .inr (.inr ⟨_, _, L, rfl, hf, k'⟩)⟩ (xi old (u.trans u') q) hg ho
def RX.throw {e : Addr} {oe : Obj} {vs : Array Value} {a0 : Value} (r : RX G A X bM Γ) (S : aM G Γ s) (he : s.heap.get? e = some oe) (hn : G.h.get? e = none) (hc : j4 oe.cls) (hd : oe.data = .fields vs) (h0 : vs[0]? = some a0) (h1 : vs[1]? = some .none) : X (.ref e) s := by
 obtain ⟨ts, ⟨fs, hA, h2, h3⟩, sub, old⟩ := r
 refine h3 e s ⟨oe.cls, a0, hc, .inl ⟨fun b o q => S.keep b o q (by rw [ts]; exact List.not_mem_nil), hn, ?_, oe, vs, he, rfl, hd, h0, h1⟩⟩ (fun p hp => ?_) S.gens S.os
 .clear hA h3
  induction fs with
  | nil => trivial
  | cons env fs ih =>
   obtain ⟨k, L, o, e1, e2, e3⟩ := h2 env (.head _)
   refine ⟨k, ⟨L, ?_⟩, ih fun fS he => h2 fS (.tail _ he)⟩
   have ow := S.own _ e2
   induction o with
   | ns m => obtain ⟨mm, ⟨o, es, ep, ho, hd, _⟩, _⟩ := ow; exact ⟨o, e1, S.low _ e2, ho, fun vs q => by replace q := hd ▸ q; contradiction⟩
   | obj o => exact ⟨o, e1, S.low _ e2, ow, e3⟩
   | _ => exact e3.elim
 .have ow := S.own _ (sub p hp)
  obtain ⟨o, e0, hi⟩ := old p hp
  rw [e0] at ow
  exact ⟨o, o.slots, e0, ow⟩
end
inductive n8 (K : Frag) (C : Addr) : Prop
 | mk {nm q N bs bm jt sn sub ab col dd k0 k1 k2 k3 k5} (hk : K.lookup C = some (excClassObj nm q C N bs bm jt sn sub ab col dd k0 k1 k2 k3 k5 "Exception.__new__")) (hm : fR C bm = true) (cls : C = 39 \/ C = 52)
section
variable {env : Env} {pos : Pos} {Γ ae bM R R' : aa} {s : Shared} {L a d C : Addr} {Q : AV -> aa -> Prop} {n : Nat} {m : List (Str × AV)}
def W1.expr {names : List (Str × NameKind)} {cl : List (Str × Addr)} {e : Expr} {Q : aN -> aa -> Prop} (ok : aA env names L cl) (h : WE G A X env e Γ (CV Q)) (hs : autoParam (PySem.swapsWith e none pos.line env = pure false) aR) :
  W1 G A X env (.Expr e pos) Γ Q := .mk fun s S =>
 PySem.wpAny_Expr_any ((h.go s S).seq fun v x ag ay r ax aG q => ⟨.next, ag, .next, ax, aG, q⟩) (by unfold PySem.interactive; refine ok.kind ▸ ?_; rfl) hs
def WM.typ {T : String} {name : Str} {v : Value} {Q : Value -> List AV -> aa -> Prop} (ht : typeOf (.type T) = pure (.type "type")) (hs : PySem.Manifest.isStub T = false) (e : findCls G.K (.type T) (.type "type") name = some (.val v)) (hh : handedIn v = true) (hk : ∀ Γ, Keeps G v Γ) (q : Q v [] Γ) :
  WM G A X name (.raw (.type T)) Γ Q := .mk fun pl s u S r => by
 apply Rep.bX r
 have Xk := S.iC
 have Dl : PySem.opaqueClassAbove (.type T) = pure none := by unfold PySem.opaqueClassAbove; dsimp only; refine hs ▸ ?_; rfl
 have L0 : Looks G.M s.heap (typeOf (.type T)) (.type "type") := Looks.of_pure ht
 have hg : findIn G.K (.type "type") "__getattribute__" = some (some (.builtin "type.__getattribute__")) := type_tga
 skip
 refine wpAny_bind (wpAny_bind (L0.here ((looks_findIn Xk hg).here ?_)))
 dsimp only
 refine (if_pos canon_tga) ▸ ?_
 have fin : ∀ {P : Value × List Value -> Shared -> Prop}, P (v, []) { s with toks := s.toks + 1 } -> wpAny G.M A (getAttr (.type T) name) (fun v => P (v, [])) X s := fun hP => by
  have LO : Looks G.M s.heap (PySem.opaqueClassAbove (.type T)) none := Looks.of_pure Dl
  exact cls_open Xk LO L0 hg (looks_hook Xk (r := none) (by rfl)) (by show subIn G.K _ _ = _; rfl) e
   (wpAny_pure (by show wpAny _ _ (handedOut v) _ _ _; rw [handedOut_of hh]; exact wpAny_pure hP))
 exact wpAny_bind (wpAny_mono (fin (P := Ay G Γ s.heap Q) ⟨[], Γ, .nil, S.toks _, .refl, hk, q⟩) (fun _ _ z => wpAny_pure z) fun _ _ z => z)
def WC.zo {t0 : Addr} {y : AV} (hC : n8 G.K C) (p : aC a (.obj (bA C none t0)) Γ R) (q : ∀ t1, Q (.raw .none) ((a, .obj (bA C none t1)) :: R)) : WC G A X (.builtin "Exception.__init__") [.raw (.ref a), y] Γ Q := .mk fun s vs S r => by
 apply ah.iM r; intro _ v q1 ry; apply Rep.bX q1
 induction hC with | @mk nm qq N bs bm jt sn sub ab col dd k0 k1 k2 k3 k5 hk hm ti => ?_
 have he := S.at p
 have CB : s.heap.get? C = some (excClassObj nm qq C N bs bm jt sn sub ab col dd k0 k1 k2 k3 k5 "Exception.__new__") := S.iC _ _ hk
 obtain ⟨hh, g, HM, tk, os⟩ := s
 refine vl CB hm he fun h' t1 e1 k => ?_
 have nd := (S.perm p.perm).nodup
 have z := S.go (ae := (a, .obj (bA C none t1)) :: R) (s' := ⟨h', g, HM, tk, os⟩) (fun b => b = a) (fun b e => .inl (e ▸ List.mem_map_of_mem p.mem)) (fun b ob e nb => k b ob nb e)
  (fun w hw => (List.mem_cons.mp hw).elim (fun e => .inr (by exact e ▸ rfl)) fun hw => .inl (p.perm.mem_iff.mpr (.tail _ hw))) (fun kk w hw e => by
   rcases List.mem_cons.mp hw with rfl | hw
   .exact e1
   .exact absurd (show a ∈ keys R by refine ((show w.1 = a from e)) ▸ ?_; exact List.mem_map_of_mem hw) (List.nodup_cons.mp nd).1) nd rfl rfl
 exact .here (.raw _) z.1 z.2 (q t1)
def zp {name : Str} {h : Heap} {V : Addr -> Prop} {P : Params} {es : List DictEntry} (sk : cz P es (m.map (·.1))) (rs : ah V h (es.map (·.val)) (m.map (·.2))) : (getL name es).isSome = true := by
 have w := ik (name := name) sk rs
 unfold getL
 cases hg : bH m name with
 | some y => rw [hg] at w; obtain ⟨e, he, _⟩ := w; rw [he]; rfl
 | none => replace w := hg ▸ w; rw [w.1, w.2]; rfl
inductive xj (G : Base) (name : Str) (y : AV) (Q : aa -> Prop) : AV -> aa -> Prop
 | mk {a t C : Addr} {R ag : aa} (p : aC a (.obj (bA C none t)) ag R) (hs : cP G.K C name = true) (q : ∀ d, Q ((d, .fld [(name, y)]) :: (a, .obj (bA C (some d) t)) :: R)) : xj G name y Q (.raw (.ref a)) ag
inductive xk (G : Base) (name : Str) (y : AV) (Q : aa -> Prop) : AV -> aa -> Prop
 | mk {a t C d : Addr} {m : List (Str × AV)} {R R' ag : aa} (p : aC a (.obj (bA C (some d) t)) ag R) (p' : aC d (.fld m) ag R') (hs : cP G.K C name = true) (hl : m.length <= 100) (q : Q ((d, .fld (bN m name y)) :: R')) : xk G name y Q (.raw (.ref a)) ag
def WA.F6 {o : Expr} {name : Str} {y : AV} {Q : aa -> Prop} (h : WE G A X env o Γ (xj G name y Q))
  (he : autoParam (∀ v, PySem.assign (.Attribute o name pos) env v = (do
   let ov <- holding [v] (eval o env)
   standAt pos.atName
   holding [v, ov] (setAttr ov name v)
   release [v, ov] [])) aJ) : WA G A X env (.Attribute o name pos) y Γ Q := .mk fun s v S r => by
 rw [he]
 refine wpAny_bind (wpAny_holding ((h.go s S).seq fun u ov ag ay ro ax aG zz => ?_))
 k_dflt induction zz with | @mk a t C R _ p hs q => ?_
 apply Rep.bX ro
 have e1 := ax.at p
 have r' := r.keep aG.az
 refine wpAny_bind (wpAny_standAt (wpAny_bind (wpAny_holding (rn ax.iC e1 hs fun h' k' g ex k => ?_))))
 have nd := (ax.perm p.perm).nodup
 have vm : ay.heap.get? ay.heap.objs.size = none := bK _
 have zz := ax.go (ae := (ay.heap.objs.size, .fld [(name, y)]) :: (a, .obj (bA C (some ay.heap.objs.size) t)) :: R) (s' := { ay with heap := h', toks := ay.toks + 2 }) (fun b => b = a \/ b = ay.heap.objs.size)
  (fun b e => e.elim (fun e => .inl (e ▸ List.mem_map_of_mem p.mem)) fun e => .inr (e ▸ vm)) (fun b ob e nb => k b ob (fun z => nb (.inl z)) e)
  (fun w hw => by
   rcases List.mem_cons.mp hw with rfl | hw
   .exact .inr (.inr rfl)
   .rcases List.mem_cons.mp hw with rfl | hw
    .exact .inr (.inl rfl)
    .exact .inl (p.perm.mem_iff.mpr (.tail _ hw))) (fun kk w hw e => by
   rcases List.mem_cons.mp hw with rfl | hw
   .exact ⟨#[_], k', by exact g, .cons rfl .nil, .one (r'.keep kk), by simp⟩
   .rcases List.mem_cons.mp hw with rfl | hw
    .exact ex
    .rcases e with e | e
     .exact absurd (show a ∈ keys R by refine ((show w.1 = a from e)) ▸ ?_; exact List.mem_map_of_mem hw) (List.nodup_cons.mp nd).1
     .exfalso
      obtain ⟨o, ho⟩ := ax.there (.inr (List.mem_map_of_mem (p.perm.mem_iff.mpr (.tail _ hw))))
      replace ho := vm ▸ (show w.1 = _ from e) ▸ ho; contradiction) (by
   refine List.nodup_cons.mpr ⟨fun hm => ?_, nd⟩
   obtain ⟨o, ho⟩ := ax.there (.inr ((keys_perm p.perm).mem_iff.mpr hm))
   replace ho := vm ▸ ho; contradiction) rfl rfl
 exact wpAny_release (.here rfl zz.1 (aG.trans zz.2) (q _))
def WA.F7 {o : Expr} {name : Str} {y : AV} {Q : aa -> Prop} (h : WE G A X env o Γ (xk G name y Q))
  (he : autoParam (∀ v, PySem.assign (.Attribute o name pos) env v = (do
   let ov <- holding [v] (eval o env)
   standAt pos.atName
   holding [v, ov] (setAttr ov name v)
   release [v, ov] [])) aJ) : WA G A X env (.Attribute o name pos) y Γ Q := .mk fun s v S r => by
 rw [he]
 refine wpAny_bind (wpAny_holding ((h.go s S).seq fun u ov ag ay ro ax aG zz => ?_))
 k_dflt induction zz with | @mk a t C d m R R' _ p p' hs hl q => ?_
 apply Rep.bX ro
 k_dflt obtain ⟨bZ, k, e2, sk, rs, nd⟩ := ax.at p'
 have e1 := ax.at p
 have r' := r.keep aG.az
 have z := uo (name := name) (t := ay.toks + 1) r' sk rs
 have zl := z.1.length
 have hlen := rl (m := m) (k := name) (y := y)
 refine wpAny_bind (wpAny_standAt (wpAny_bind (wpAny_holding (th (es := bZ.toList) (k := k) ax.iC e1 (by exact e2) hs (zp sk rs) (by rw [zl, List.length_map]; tm_at "o") fun h' k' g ue => ?_))))
 have zz := ax.change (s' := { ay with heap := h', toks := ay.toks + 2 }) (o' := .fld (bN m name y)) p' ue rfl rfl fun kk => by
  exact ⟨_, k', g, by simpa using z.1, by simpa using z.2.keep kk, fP nd⟩
 exact wpAny_release (.here rfl zz.1 (aG.trans zz.2) q)
def WC.uq {fI : Addr} {xs : List AV} (hR : aj A (n + 1)) (hC : n8 G.K C) (hi : findIn G.K (.ref C) "__init__" = some (some (.ref fI))) (hf : typeIn G.K (.ref fI) = some (.type "function")) (hz : xs.length <= sizeLine)
  (h : ∀ a t A' X', aj A' n -> WC G A' X' (.ref fI) (.raw (.ref a) :: xs) ((a, .obj (bA C none t)) :: Γ) fun v ae => v = .raw .none /\ Q (.raw (.ref a)) ae) : WC G A X (.ref C) xs Γ Q := .mk fun s vs S r => by
 cases hC with | @mk nm qq N bs bm jt sn sub ab col dd k0 k1 k2 k3 k5 hk hm ti => ?_
 have CB : s.heap.get? C = some (excClassObj nm qq C N bs bm jt sn sub ab col dd k0 k1 k2 k3 k5 "Exception.__new__") := S.iC _ _ hk
 have z1 := S.push (s' := { s with heap := s.heap.push { cls := .type "tuple", data := .seq vs.toArray } }) rfl rfl rfl
 have z2 := z1.1.alloc (s' := { s with heap := (s.heap.push { cls := .type "tuple", data := .seq vs.toArray }).push (bA C none s.heap.objs.size) }) (o' := .obj (bA C none s.heap.objs.size)) rfl rfl rfl fun kk => Heap.get?_push_size _ rfl
 have T := z1.2.trans z2.2
 have e : (s.heap.push { cls := .type "tuple", data := .seq vs.toArray }).objs.size = s.heap.objs.size + 1 := Heap.size_push ..
 obtain ⟨hh, g, HM, t, os⟩ := s
 dsimp only at e z1 z2 T CB ⊢
 rw [e] at z2 T
 refine xd S.iC CB hm hi hf (by rw [r.length]; exact hz) ?_
 refine wpAny_mono ((h (hh.objs.size + 1) hh.objs.size _ X (hR.under (C := C) (rest := vs))).go _ (.ref (hh.objs.size + 1) :: vs) z2.1 (.cons (.raw _) (r.keep T.az))) (fun rr s' z => ?_) fun _ _ x => x
 obtain ⟨b, ae, rb, S', T', e1, q⟩ := z
 subst e1
 apply Rep.bX rb
 exact ⟨rfl, _, ae, .raw _, S', T.trans T', q⟩
inductive ur (G : Base) (A : Around) (X : Value -> Shared -> Prop) : AV -> aa -> Prop
 | mk {e C : Addr} {dx : Option Addr} {t : Addr} {R bM ag : aa} (p : aC e (.obj (bA C dx t)) ag R) (hC : n8 G.K C) (rx : RX G A X bM ag) : ur G A X (.raw (.ref e)) ag
def W1.raise {x : Expr} {Q : aN -> aa -> Prop} (hR : aj A n) (h : WE G A X env x Γ (ur G A X)) : W1 G A X env (.Raise (some x) none pos) Γ Q := .mk fun s S => by
 skip
 rw [PySem.arm_exec_Raise]
 show wpAny G.M A (do standAt pos; raiseStmt env (some (do let v <- eval x env; standAt pos; pure v)) none) _ X s
 refine wpAny_bind (wpAny_standAt ?_)
 skip
 refine wpAny_bind (wpAny_bind ((h.go s S).seq fun v av ag ay r ax aG zz => wpAny_bind (wpAny_standAt (wpAny_pure ?_))))
 induction zz with | @mk e C dx t R bM _ p hC rx => ?_
 apply Rep.bX r
 induction hC with | @mk nm qq N bs bm jt sn sub ab col dd k0 k1 k2 k3 k5 hk hm ti => ?_
 have CB : ay.heap.get? C = some (excClassObj nm qq C N bs bm jt sn sub ab col dd k0 k1 k2 k3 k5 "Exception.__new__") := ax.iC _ _ hk
 have he := ax.at p
 have hE := rx.throw ax he (ax.low _ p.mem) (ti.elim (fun e => .inl (by rw [e])) fun e => .inr (by rw [e])) rfl rfl rfl
 have JO : (Value.ref C :: bm).contains (.type "BaseException") = true := by
  unfold fR at hm
  simp only [Bool.and_eq_true] at hm
  exact hm.1.1.2
 obtain ⟨hp, g, d, tk, os⟩ := ay
 repeat (first | (tm_at "gI"; refine wpAny_isSubtype_exc CB ?_; rw [JO]) | tm_at "wp")
 exact wpAny_raiseNew_none hR.handled hE
end
end
section
section
variable {Γ ag R : aa}
structure iO (G : Base) (A : Around) (X : Value -> Shared -> Prop) (env : Env) (L : Addr) (cd : Value) (A' : Around) (X' : Value -> Shared -> Prop) : Prop where
 around : A' = A.deeper env
 ex : X' = sR G A env X
 frame : env.frame = some L
 code : env.code = cd
def WF.xl {f : Addr} {oc : Value} {od : Option Addr} {ng : Array (Option Value)} {name qual : Str} {params : Arguments} {body : List Stmt} {scope : Scope} {dV kV doc pm cV ct : Value} {an : Option Addr} {xs ys : List AV} {ds : List Value}
  {m cs : List (Str × Option AV)} {ns : List Str} {n : Nat} {Q : AV -> aa -> Prop}
  (hK : G.K.lookup f = some ⟨oc, od, .func (fnOf name qual params body scope dV kV doc pm an cV ct), ng⟩) (gG : codeIn G.K cV qual = true) (hR : aj A (n + 1))
  (hb : ∀ s, aM G Γ s -> uZ xs.length fun vs => BindsTo s (fnOf name qual params body scope dV kV doc pm an cV ct) ⟨vs, []⟩ (ns.zip (vs ++ ds)))
  (wa : ∀ s, aM G Γ s -> ah (bc G Γ) s.heap ds ys) (hlen : ns.length = (xs ++ ys).length)
  (hs : bz scope.names = true) (l : Lay scope.names (ns.zip (xs ++ ys)) m cs)
  (h : ∀ L env A' X', aA env scope.names L (bD (L + 1) cs) -> aj A' n -> iO G A X env L cV A' X' -> WS G A' X' env body (aE (L + 1) cs ++ (L, .ns m) :: Γ) fun fl ae => Fin G Q (iH fl) ae)
  (iS : autoParam (scope.isCoroutine = false) aR) (cW : autoParam (scope.isGenerator = false) aR) (hk : autoParam (scope.kind = .function) aR) : WF G A X (.ref f) xs Γ Q :=
 have ⟨nd, nb⟩ := ew hs
 WF.fn hK gG hR (fun s vs S hl => (hb s S).go hl) wa hlen nd l (fun L R' => h L _ _ _ ⟨rfl, hk, nd, nb, rfl, rfl, rfl, fun x c hc => l.gO nd hc⟩ R' ⟨rfl, rfl, rfl, rfl⟩) iS cW hk
variable {f : Addr} {oc : Value} {od : Option Addr} {ng : Array (Option Value)} {name qual : Str} {params : Arguments} {body : List Stmt} {scope : Scope} {dV kV doc pm cV ct : Value} {an : Option Addr} {m cs : List (Str × Option AV)} {p1 p2 p3 p4 p5 : Str} {x1 x2 x3 x4 x5 : AV} {n : Nat} {Q : AV -> aa -> Prop}
def WC.def0X
  (hK : G.K.lookup f = some ⟨oc, od, .func (fnOf name qual params body scope dV kV doc pm an cV ct), ng⟩) (gG : codeIn G.K cV qual = true) (hR : aj A (n + 1))
  (hb : ∀ s, aM G Γ s -> BindsTo s (fnOf name qual params body scope dV kV doc pm an cV ct) ⟨[], []⟩ []) (hs : bz scope.names = true) (l : Lay scope.names [] m cs)
  (h : ∀ L env A' X', aA env scope.names L (bD (L + 1) cs) -> aj A' n -> iO G A X env L cV A' X' -> WS G A' X' env body (aE (L + 1) cs ++ (L, .ns m) :: Γ) fun fl ae => Fin G Q (iH fl) ae)
  (iS : autoParam (scope.isCoroutine = false) aR) (cW : autoParam (scope.isGenerator = false) aR) (hk : autoParam (scope.kind = .function) aR) : WC G A X (.ref f) [] Γ Q :=
 .jh (WF.xl (ns := []) (ys := []) (ds := []) hK gG hR (fun s S => hb s S) (fun _ _ => .nil) rfl hs l h iS cW hk)
def WC.def1X
  (hK : G.K.lookup f = some ⟨oc, od, .func (fnOf name qual params body scope dV kV doc pm an cV ct), ng⟩) (gG : codeIn G.K cV qual = true) (hp : params.args.map (·.arg) = [p1]) (hR : aj A (n + 1))
  (hb : ∀ s v1, aM G Γ s -> BindsTo s (fnOf name qual params body scope dV kV doc pm an cV ct) ⟨[v1], []⟩ [(p1, v1)]) (hs : bz scope.names = true) (l : Lay scope.names [(p1, x1)] m cs)
  (h : ∀ L env A' X', aA env scope.names L (bD (L + 1) cs) -> aj A' n -> iO G A X env L cV A' X' -> WS G A' X' env body (aE (L + 1) cs ++ (L, .ns m) :: Γ) fun fl ae => Fin G Q (iH fl) ae)
  (iS : autoParam (scope.isCoroutine = false) aR) (cW : autoParam (scope.isGenerator = false) aR) (hk : autoParam (scope.kind = .function) aR) : WC G A X (.ref f) [x1] Γ Q :=
 .jh (WF.xl (ns := [p1]) (ys := []) (ds := []) hK gG hR (fun s S v1 => hb s v1 S) (fun _ _ => .nil) rfl hs l h iS cW hk)
def WC.def2X
  (hK : G.K.lookup f = some ⟨oc, od, .func (fnOf name qual params body scope dV kV doc pm an cV ct), ng⟩) (gG : codeIn G.K cV qual = true) (hp : params.args.map (·.arg) = [p1, p2]) (hR : aj A (n + 1))
  (hb : ∀ s v1 v2, aM G Γ s -> BindsTo s (fnOf name qual params body scope dV kV doc pm an cV ct) ⟨[v1, v2], []⟩ [(p1, v1), (p2, v2)]) (hs : bz scope.names = true) (l : Lay scope.names [(p1, x1), (p2, x2)] m cs)
  (h : ∀ L env A' X', aA env scope.names L (bD (L + 1) cs) -> aj A' n -> iO G A X env L cV A' X' -> WS G A' X' env body (aE (L + 1) cs ++ (L, .ns m) :: Γ) fun fl ae => Fin G Q (iH fl) ae)
  (iS : autoParam (scope.isCoroutine = false) aR) (cW : autoParam (scope.isGenerator = false) aR) (hk : autoParam (scope.kind = .function) aR) : WC G A X (.ref f) [x1, x2] Γ Q :=
 .jh (WF.xl (ns := [p1, p2]) (ys := []) (ds := []) hK gG hR (fun s S v1 v2 => hb s v1 v2 S) (fun _ _ => .nil) rfl hs l h iS cW hk)
def WC.def3X
  (hK : G.K.lookup f = some ⟨oc, od, .func (fnOf name qual params body scope dV kV doc pm an cV ct), ng⟩) (gG : codeIn G.K cV qual = true) (hp : params.args.map (·.arg) = [p1, p2, p3]) (hR : aj A (n + 1))
  (hb : ∀ s v1 v2 v3, aM G Γ s -> BindsTo s (fnOf name qual params body scope dV kV doc pm an cV ct) ⟨[v1, v2, v3], []⟩ [(p1, v1), (p2, v2), (p3, v3)]) (hs : bz scope.names = true) (l : Lay scope.names [(p1, x1), (p2, x2), (p3, x3)] m cs)
  (h : ∀ L env A' X', aA env scope.names L (bD (L + 1) cs) -> aj A' n -> iO G A X env L cV A' X' -> WS G A' X' env body (aE (L + 1) cs ++ (L, .ns m) :: Γ) fun fl ae => Fin G Q (iH fl) ae)
  (iS : autoParam (scope.isCoroutine = false) aR) (cW : autoParam (scope.isGenerator = false) aR) (hk : autoParam (scope.kind = .function) aR) : WC G A X (.ref f) [x1, x2, x3] Γ Q :=
 .jh (WF.xl (ns := [p1, p2, p3]) (ys := []) (ds := []) hK gG hR (fun s S v1 v2 v3 => hb s v1 v2 v3 S) (fun _ _ => .nil) rfl hs l h iS cW hk)
def WC.def4X
  (hK : G.K.lookup f = some ⟨oc, od, .func (fnOf name qual params body scope dV kV doc pm an cV ct), ng⟩) (gG : codeIn G.K cV qual = true) (hp : params.args.map (·.arg) = [p1, p2, p3, p4]) (hR : aj A (n + 1))
  (hb : ∀ s v1 v2 v3 v4, aM G Γ s -> BindsTo s (fnOf name qual params body scope dV kV doc pm an cV ct) ⟨[v1, v2, v3, v4], []⟩ [(p1, v1), (p2, v2), (p3, v3), (p4, v4)]) (hs : bz scope.names = true) (l : Lay scope.names [(p1, x1), (p2, x2), (p3, x3), (p4, x4)] m cs)
  (h : ∀ L env A' X', aA env scope.names L (bD (L + 1) cs) -> aj A' n -> iO G A X env L cV A' X' -> WS G A' X' env body (aE (L + 1) cs ++ (L, .ns m) :: Γ) fun fl ae => Fin G Q (iH fl) ae)
  (iS : autoParam (scope.isCoroutine = false) aR) (cW : autoParam (scope.isGenerator = false) aR) (hk : autoParam (scope.kind = .function) aR) : WC G A X (.ref f) [x1, x2, x3, x4] Γ Q :=
 .jh (WF.xl (ns := [p1, p2, p3, p4]) (ys := []) (ds := []) hK gG hR (fun s S v1 v2 v3 v4 => hb s v1 v2 v3 v4 S) (fun _ _ => .nil) rfl hs l h iS cW hk)
end
structure FX (A : Around) (Γ : aa) : Prop where
 ex : ∃ fs, A.frames = some fs /\ ∀ env ∈ fs, env.scope.kind ≠ .module /\ ∃ L m, env.frame = some L /\ (L, bG.ns m) ∈ Γ
section
variable {A A' : Around} {X X' : Value -> Shared -> Prop} {env : Env} {Γ ae bM R : aa} {s s' : Shared} {L : Addr} {cd : Value}
def FX.mono (r : FX A Γ) (h : ∀ p ∈ Γ, p ∈ ae) : FX A ae := ⟨let ⟨fs, h1, h2⟩ := r.ex; ⟨fs, h1, fun env he => (by refine gF fun Z => ?_; obtain ⟨k, L, m, e1, e2⟩ := h2 env he; exact Z (⟨k, L, m, e1, h _ e2⟩))⟩⟩
def FX.enter {m : List (Str × Option AV)} (d : iO G A X env L cd A' X') (r : FX A Γ) (hk : env.scope.kind = .function) (hm : (L, .ns m) ∈ ae) (h : ∀ p ∈ Γ, p ∈ ae) : FX A' ae := by
 obtain ⟨fs, h1, h2⟩ := r.ex
 rw [d.around]
 refine ⟨env :: fs, Around.frames_deeper h1, fun fS he => ?_⟩
 k_dflt rcases List.mem_cons.mp he with rfl | he
 .exact ⟨by rw [hk]; decide, L, m, d.frame, hm⟩
 .k_dflt obtain ⟨k, L', m', e1, e2⟩ := h2 fS he
  exact ⟨k, L', m', e1, h _ e2⟩
def RX.into {m : List (Str × Option AV)} (d : iO G A X env L cd A' X') (r : RX G A X bM Γ) (hk : env.scope.kind = .function) (hm : (L, .ns m) ∈ ae) (h : ∀ p ∈ Γ, p ∈ ae) : RX G A' X' bM ae := by
 rw [d.around, d.ex]; exact r.enter hk d.frame hm h
theorem RX.pM (d : iO G A X env L cd A' X') (r : RX G A' X' bM Γ) {fs : List Env} (hA : A.frames = some fs) : RX G A' (xh G A' env X') bM Γ :=
 r.loop (by rw [d.around]; exact Around.frames_deeper hA) d.frame
theorem RX.frames (r : RX G A X bM Γ) : ∃ fs, A.frames = some fs := (by obtain ⟨fs, h, _⟩ := r.ex; exact ⟨fs, h⟩)
def CC (fs : List Env) (h h' : Heap) : Prop := ∀ env ∈ fs, ∀ L o, env.frame = some L -> h.get? L = some o -> ∃ sl, h'.get? L = some { o with slots := sl }
noncomputable abbrev fT (fs : List Env) : List Addr := fs.filterMap (·.frame)
def xm {h h' : Heap} {a : Addr} {mm : Str -> Option Value} (hn : h.Ns a mm) (k : ∀ o, h.get? a = some o -> ∃ sl, h'.get? a = some { o with slots := sl }) : h'.Ns a mm := by
 k_dflt obtain ⟨o, es, ep, e, hd, r⟩ := hn
 obtain ⟨sl, e'⟩ := k o e
 exact ⟨_, es, ep, e', hd, r⟩
def uniq {a : Addr} {o : bG} : ∀ {Γ : aa} {p : Addr × bG}, (keys Γ).Nodup -> p ∈ Γ -> (p.1, o) ∈ Γ -> p = (p.1, o) := by
 intro Γ; induction Γ with
 | nil => intro _ _ h _; cases h
 | cons e Γ ih =>
  intro p nd h h'
  have dg := List.nodup_cons.mp nd
  rcases List.mem_cons.mp h with h | h
  .rcases List.mem_cons.mp h' with h' | h'
   .rw [h, <- h']
   .exact absurd (show e.1 ∈ keys Γ from List.mem_map.mpr ⟨_, h', by rw [h]⟩) dg.1
  .rcases List.mem_cons.mp h' with h' | h'
   .exact absurd (show e.1 ∈ keys Γ from List.mem_map.mpr ⟨_, h, by rw [<- h']⟩) dg.1
   .exact ih dg.2 h h'
def aM.back (S : aM G Γ s) {fs : List Env} (hf : ∀ env ∈ fs, env.scope.kind ≠ .module /\ ∃ L m, env.frame = some L /\ (L, bG.ns m) ∈ Γ) (hB : (hideAll s.heap (fT fs)).StaysIn s'.heap) (u : CC fs s.heap s'.heap)
  (hg : s'.gens = s.gens) (eK : s'.os = s.os) : aM G Γ s' /\ Step G Γ s.heap Γ s'.heap := by
 have mem : ∀ b, b ∈ fT fs -> ∃ env ∈ fs, env.frame = some b /\ ∃ m, (b, bG.ns m) ∈ Γ := fun b hb => by
  k_dflt obtain ⟨env, he, e⟩ := List.mem_filterMap.mp hb
  k_dflt obtain ⟨k, L, m, e1, e2⟩ := hf env he
  rw [e] at e1; obtain rfl := Option.some.inj e1
  exact ⟨env, he, e, m, e2⟩
 refine S.go (fun b => b ∈ fT fs) (fun b hb => (by refine gF fun Z => ?_; obtain ⟨_, _, _, m, q⟩ := mem b hb; exact Z (.inl (List.mem_map_of_mem q)))) (fun b o e nb => hB b o (hideAll_get _ e nb)) (fun p hp => .inl hp) (fun k p hp hC => ?_) S.nodup hg eK
 k_dflt obtain ⟨env, he, e, m, q⟩ := mem p.1 hC
 have e2 : p = (p.1, .ns m) := by
  exact uniq (a := 0) S.nodup hp q
 obtain ⟨a, o⟩ := p
 cases e2
 obtain ⟨mm, hn, nd, hr⟩ := S.own _ hp
 exact ⟨mm, xm hn fun o ho => u env he a o e ho, nd, fun p hp => (hr p hp).keep k⟩
def CC.of {fs : List Env} {h h' iD : Heap} (u : CC fs h h') (hd : ∀ env ∈ fs, ∀ L o, env.frame = some L -> h.get? L = some o -> ∀ vs, o.data ≠ .fields vs) (v : h'.UpToSlots iD) : CC fs h iD := fun env he L o e ho => by
 obtain ⟨sl, e1⟩ := u env he L o e ho
 obtain ⟨F5, e2⟩ := v _ _ e1 (hd env he L o e ho)
 exact ⟨F5, e2⟩
noncomputable def Base.Dm (G : Base) (S : aM G Γ s) (fs : List Env) (hf : ∀ env ∈ fs, env.scope.kind ≠ .module /\ ∃ L m, env.frame = some L /\ (L, bG.ns m) ∈ Γ) : Base :=
 have nf : ∀ b o, G.h.get? b = some o -> b ∉ fT fs := fun b o e hb => by
  obtain ⟨env, he, e'⟩ := List.mem_filterMap.mp hb
  obtain ⟨k, L, m, e1, e2⟩ := hf env he
  rw [e'] at e1; cases e1
  have := S.low _ e2
  replace this := e ▸ this; contradiction
 have kb : ∀ b o, G.h.get? b = some o -> b ∉ G.ts -> (hideAll s.heap (fT fs)).get? b = some o := fun b o e n => hideAll_get _ (S.keep b o e n) (nf b o e)
 { prog := G.prog, w := G.w, h := hideAll s.heap (fT fs), ts := [], tP := G.tP, os := G.os, K := G.K, sO := fun _ h => absurd h List.not_mem_nil, iC := fun a o e => ⟨kb a o (G.iC a o e).1 (G.iC a o e).2, List.not_mem_nil⟩, mg := G.mg, mb := G.mb, Ba := eO G.Ba fun o e => kb _ o e G.yS, yS := List.not_mem_nil, En := eO G.En fun o e => kb _ o e G.Eo, Eo := List.not_mem_nil, lim := (by obtain ⟨mc, n, e⟩ := G.lim; exact ⟨mc, eO n fun o e => kb _ o e G.Ep, e⟩), Ep := List.not_mem_nil }
end
def zq (G : Base) (A : Around) (v : Value) (xs : List AV) : Prop := ∀ (G' : Base) (bM : aa) (X' : Value -> Shared -> Prop), G'.K = G.K -> G'.mb = G.mb -> G'.w = G.w -> G'.prog = G.prog -> RX G' A X' bM bM -> WC G' A X' v xs bM fun _ _ => False
section
variable {A A' : Around} {X X' : Value -> Shared -> Prop} {env : Env} {names : List (Str × NameKind)} {cl : List (Str × Addr)} {Γ ae bM R : aa} {s s' : Shared} {L : Addr} {cd : Value}
def pN {x : Str} {np zr : Pos} {n9 : Stmt} {CD : List Stmt} {Q : aN -> aa -> Prop} {fs : List Env} {e : Addr} {cls a0 : Value} {h₀ : Heap} {cY : aa} (ok : aA env names L cl) (hx : (x, .globalImplicit) ∈ names) (hg : G.mg x = some (.ref 39))
  (hm : ∀ cls, j4 cls -> exmOne G.K cls (.ref 39) = some true) (hb : ∀ A' X', WS G A' X' env (n9 :: CD) Γ Q)
  (S : aM G Γ s) (T : Step G cY h₀ Γ s.heap) (hf : ∀ env ∈ fs, env.scope.kind ≠ .module /\ ∃ L m, env.frame = some L /\ (L, bG.ns m) ∈ Γ) (hc : j4 cls)
  (fl : Heap.FlyingW (hideAll s.heap (fT fs)) fs e cls a0 s'.heap) (u : CC fs s.heap s'.heap) (Ey : s'.gens = s.gens) (eK : s'.os = s.os) :
  wpAny G.M A (handleBy (.ref e) env [.ExceptHandler (some (.Name x np)) none (n9 :: CD) zr]) (gv G cY h₀ jW Q) X s' := by
 have hd : ∀ env ∈ fs, ∀ L o, env.frame = some L -> s.heap.get? L = some o -> ∀ vs, o.data ≠ .fields vs := fun env he L o e ho => by
  obtain ⟨k, L', m, e1, e2⟩ := hf env he
  rw [e] at e1; cases e1
  obtain ⟨mm, ⟨o', es, ep, e3, e4, _⟩, _⟩ := S.own _ e2
  rw [ho] at e3; cases e3
  intro vs q; rw [e4] at q; cases q
 refine PySem.wpAny_handleBy_cons (PySem.codeAny_handlers_test ?_) (by intro q; cases q)
 have S' := S.back hf fl.1 u Ey eK
 refine Name_function_global ok.kind (ok.kindOf hx) (loadGlobal_global (ok.globals ▸ S'.1.mg) hg ?_) (ok.nb _ hx).1
 k_dflt obtain ⟨ob, JP, F8⟩ := fl.there
 have LT : Looks G.M s'.heap (typeOf (.ref e)) cls := F8 ▸ (Looks.ld JP).andThen .now
 refine (exm_one S'.1.iC LT (hm cls hc)).here ?_
 refine PySem.codeAny_handlers_suite ?_
 refine lands_againW fl fun F9 Dn Ga => ?_
 have u' := u.of hd Ga
 have sV := S.back (s' := { s' with heap := F9 }) hf Dn.1 u' Ey eK
 exact wpAny_mono ((hb _ _).go _ sV.1) (fun f JQ zz => (by obtain ⟨b, Dq, r, Gb, Gd, q⟩ := zz; exact ⟨b, Dq, r, Gb, (T.trans sV.2).trans Gd, q⟩)) fun _ _ x => x
def lZ {s₀ : Shared} {v : Value} {pos : Pos} {es : List Expr} {P : Value -> Shared -> Prop} (S : aM G Γ s)
  (h : ll G A X env es Γ fun xs ai => Keeps G v ai /\ ∀ aW vs, aM G ai aW -> ah (bc G ai) aW.heap vs xs -> Step G Γ s.heap ai aW.heap -> wpAny G.M A (call v vs) P X aW)
  (hp : (backTo pos (starEach es env)).any (·.1) = false) (hs : ∀ e r, es = e :: r -> starEach (e :: r) env = (false, eval e env) :: starEach r env) :
  wpAny G.M A (callWith pos v [] (backTo pos (starEach es env)) []) P X s := by
 refine callWith_of (P := fun h => ∃ k, (k = Keeper.frame \/ k = Keeper.machine \/ k = Keeper.boundFrame) /\ Looks G.M h (keeperOf v) k) (by rw [hp]; rfl) (fun h e => e) ?_
 induction es with
 | nil =>
  skip
  skip
  refine wpAny_bind ((h.go pos s S).seq fun vs xs ai aW r bp bx ⟨hk, hw⟩ => wpAny_bind (wpAny_pure ?_))
  refine wpAny_holding ?_
  exact wpAny_bind (wpAny_pure (wpAny_bind (wpAny_pure (wpAny_pure ⟨hk.go aW bp, hw aW _ bp r bx⟩))))
 | cons e r =>
  rw [hs e r rfl]
  refine evalArgs_plain ?_
  have := h.go pos s S
  rw [hs e r rfl] at this
  exact this.seq fun vs xs ai aW r bp bx ⟨hk, hw⟩ => ⟨hk.go aW bp, hw aW _ bp r bx⟩
def W1.zt {fe : Expr} {es : List Expr} {tj Dr zr np pos : Pos} {x : Str} {n9 : Stmt} {CD : List Stmt} {Q : aN -> aa -> Prop} (ok : aA env names L cl) (hx : (x, .globalImplicit) ∈ names) (hg : G.mg x = some (.ref 39))
  (hm : ∀ cls, j4 cls -> exmOne G.K cls (.ref 39) = some true) {outer : List Env} (hA : A.frames = some (env :: outer)) (vm : env.frame = some L)
  (h : ∀ X', WE G A X' env fe Γ fun fv ag => ∃ v, fv = .raw v /\ ll G A X' env es ag fun xs ai => Keeps G v ai /\ FX A ai /\ (∀ A' X', WS G A' X' env (n9 :: CD) ai Q) /\ zq G A v xs)
  (hp : autoParam (b7 es = true) aR)
  (he : autoParam (eval (.Call fe es [] tj) env = (do callWith tj (<- eval fe env) [] (backTo tj (starEach es env)) (backToKw tj (keywordEach [] env)))) aR)
  (hs : autoParam (PySem.swapsWith (.Call fe es [] tj) none Dr.line env = pure false) aR) :
  W1 G A X env (.Try [.Expr (.Call fe es [] tj) Dr] [.ExceptHandler (some (.Name x np)) none (n9 :: CD) zr] [] [] pos) Γ Q := .mk fun s S => by
 skip
 refine PySem.wpAny_Try_except ?_
 refine PySem.wpAny_execs_cons ?_
 refine PySem.wpAny_Expr_any ?_ (by unfold PySem.interactive; refine ok.kind ▸ ?_; rfl) hs
 refine Call_ (((h _).go s S).seq fun u fv ag ay r ax aG zz => ?_) he
 k_dflt obtain ⟨v, e1, bk⟩ := zz
 subst e1; apply Rep.bX r
 refine lZ (s₀ := s) ax (.mk fun pos Ge Gf => (bk.go pos Ge Gf).mono fun xs ai ⟨hk, JR, hh, JS⟩ => ⟨hk, fun aW vs bp rs bx => ?_⟩) (dH hp).2 (dH (pos := tj) hp).1
 k_dflt obtain ⟨fs, tn, hf⟩ := JR.ex
 replace tn := hA ▸ tn; obtain rfl := Option.some.inj tn
 have hd : ∀ fS ∈ env :: outer, ∀ L o, fS.frame = some L -> aW.heap.get? L = some o -> ∀ vs, o.data ≠ .fields vs := fun fS he L o e ho => by
  obtain ⟨k, L', m, e1, e2⟩ := hf fS he
  rw [e] at e1; cases e1
  obtain ⟨mm, ⟨o', es, ep, e3, e4, _⟩, _⟩ := bp.own _ e2
  rw [ho] at e3; cases e3
  intro vs q; rw [e4] at q; cases q
 let wr := (keys ai).filter (fun b => decide (b ∈ fT (env :: outer)))
 have AD : ∀ b, b ∈ wr ↔ b ∈ keys ai /\ b ∈ fT (env :: outer) := fun b => by simp [wr, List.mem_filter]
 k_dflt obtain ⟨os, hl, ho⟩ := lQ aW.heap wr fun b hb => bp.there (.inr ((AD b).mp hb).1)
 have dW := cw hl
 let G' := G.Dm bp (env :: outer) hf
 have SG : aM G' (aY wr os) aW := by
  refine ⟨PySem.OldK.of_keep fun b o e => of_hideAll _ e, fun b o e _ => of_hideAll _ e, fun b hb => absurd hb List.not_mem_nil, fun p hp => ?_, ?_, fun p hp => ?_, bp.gens, bp.os⟩
  .obtain ⟨o, e1, e2⟩ := ho p hp
   refine e1 ▸ ?_; exact e2
  .rw [dW]; exact bp.nodup.filter _
  .refine hideAll_none _ ((AD p.1).mp ?_).2
   rw [<- dW]; exact List.mem_map_of_mem hp
 have vk : fK (bc G ai) (bc G' (aY wr os)) aW.heap aW.heap := fun a o e n => ⟨e, fun q => by
  rcases q with q | q
  .exact absurd q List.not_mem_nil
  .rw [dW] at q; exact n (.inr ((AD a).mp q).1)⟩
 have rx : RX G' A (fun e ay => wpAny G.M A (noteFrame e env) (fun _ aW => wpAny G.M A (setFlight e none) (fun _ gK => wpAny G.M A (handleBy e env [.ExceptHandler (some (.Name x np)) none (n9 :: CD) zr]) (gv G Γ s.heap jW Q) X gK) X aW) X ay) (aY wr os) (aY wr os) := by
  refine ⟨rfl, ⟨env :: outer, hA, fun fS he => ?_, fun e s' t q Ey eK => ?_⟩, fun p hp => hp, fun p hp => ?_⟩
  .k_dflt obtain ⟨k, L', m, e1, e2⟩ := hf fS he
   have hw : L' ∈ wr := (AD L').mpr ⟨List.mem_map_of_mem (f := Prod.fst) e2, List.mem_filterMap.mpr ⟨fS, he, e1⟩⟩
   obtain ⟨o, lp⟩ := lP hl L' hw
   k_dflt obtain ⟨o', e3, e4⟩ := ho _ lp
   k_dflt cases e3
   exact ⟨k, L', _, e1, lp, hd fS he L' o e1 e4⟩
  .have uf : CC (env :: outer) aW.heap s'.heap := fun fS he L' o e e' => by
    obtain ⟨k, Lz, m, e1, e2⟩ := hf fS he
    rw [e] at e1; obtain rfl := Option.some.inj e1
    have hw : L' ∈ wr := (AD L').mpr ⟨List.mem_map_of_mem (f := Prod.fst) e2, List.mem_filterMap.mpr ⟨fS, he, e⟩⟩
    obtain ⟨JT, lp⟩ := lP hl L' hw
    obtain ⟨JU, e3, e4⟩ := ho _ lp
    k_dflt obtain ⟨JV, sl, e5, e6⟩ := q _ lp
    cases e3; cases e5
    replace e4 := e' ▸ e4; obtain rfl := Option.some.inj e4
    exact ⟨sl, e6⟩
   have Gg : s'.gens = aW.gens := Ey.trans bp.gens.symm
   have Gh : s'.os = aW.os := (show s'.os = G.os from eK).trans bp.os.symm
   refine pL hA vm t fun bk cls a0 hc k Gi => ?_
   refine wpAny_landsW k fun gx f Gj => ?_
   exact pN (cY := Γ) (h₀ := s.heap) ok hx hg hm hh bp (aG.trans bx) hf hc f (uf.of hd (Gi.trans Gj)) Gg Gh
  .obtain ⟨o, e1, e2⟩ := ho p hp
   refine ⟨o, e1, ?_⟩
   have : p.1 ∈ wr := by rw [<- dW]; exact List.mem_map_of_mem hp
   obtain ⟨fS, he, e⟩ := List.mem_filterMap.mp ((AD p.1).mp this).2
   exact hd fS he p.1 o e e2
 exact wpAny_mono ((JS G' _ _ rfl rfl rfl rfl rx).go aW vs SG (rs.keep vk)) (fun _ _ zz => (by obtain ⟨_, _, _, _, _, q⟩ := zz; exact q.elim)) fun _ _ x => x
end
end
section
section
variable {env : Env} {pos : Pos} {names : List (Str × NameKind)} {cl : List (Str × Addr)} {Γ ag ai R : aa} {s s' : Shared} {n : Nat} {Q : AV -> aa -> Prop} {a L : Addr} {x : Str} {m m' : List (Str × Option AV)}
inductive AH (L : Addr) (x : Str) (i : Int) (Q : aa -> Prop) : AV -> aa -> Prop
 | mk {j : Int} {Γ : aa} (h : jg L x (.int (i + j)) Q Γ) : AH L x i Q (.int j) Γ
def W1.Gk {e : Expr} {p' : Pos} {i : Int} {Q : aN -> aa -> Prop} (ok : aA env names L cl) (hx : (x, .local) ∈ names) (p : aC L (.ns m) Γ R) (hm : (x, some (.int i)) ∈ m)
  (h : WE G A X env e Γ (AH L x i (Q .next))) : W1 G A X env (.AugAssign (.Name x p') .Add e pos) Γ Q := .mk fun s S => by
 refine wpAny_AugAssign_Name ?_
 k_dflt obtain ⟨mm, hn, nd, hr⟩ := S.at p
 have r := hr _ hm
 cases e : mm x with
 | none => dsimp only at r; rw [e] at r; exact r.elim
 | some u =>
  dsimp only at r; rw [e] at r
  k_dflt have ri := r.inv; clear r; induction ri
  refine wpAny_loadName_local ok.kind (ok.kindOf hx) (by rw [ok.locals]; exact hn) e ?_
  refine (h.go s S).seq fun v y ag ay BA ax aG zz => ?_
  k_dflt obtain ⟨⟨Gl, hp, q⟩⟩ := zz
  apply Rep.dZ BA; intro t
  refine PySem.P.iadd_int ?_
  have z := ax.same (s' := { ay with toks := ay.toks + 1 }) rfl rfl rfl
  exact wpAny_mono (gL (A := A) (X := X) (Q := fun ae => Q .next ae) (ok.kindOf hx) (by rw [ok.locals]; exact Gl) hp z.1 (.int _ _) (by refine ok.locals ▸ ?_; exact q) ok.kind)
   (fun _ _ zz => (by refine gF fun Z => ?_; obtain ⟨b, ae, rb, S', T', q'⟩ := zz; exact Z (⟨.next, ae, .next, S', (aG.trans z.2).trans T', q'⟩))) fun _ _ e => e
inductive zu (a b : Int) (V : Addr -> Prop) (h : Heap) (v : Value) : Prop
 | mk (r : Addr) (t u w : Tok) (e : v = .ref r) (hr : IsRange h r a b 1 t u w) (nv : ¬ V r)
noncomputable def l0 (a b : Int) : AV := .dS {
 P := zu a b
 ref := fun V h v zz => (by refine gF fun Z => ?_; obtain ⟨r, _, _, _, e, _⟩ := zz; exact Z (⟨r, e⟩))
 keep := fun V V' h h' v k zz => (by refine gF fun Z => ?_; obtain ⟨r, t, u, w, e, h1, h2⟩ := zz; exact Z (⟨r, t, u, w, e, (k _ _ h1 h2).1, (k _ _ h1 h2).2⟩))}
set_option tactic.hygienic true in
def WC.l3 {b : Int} (q : Q (l0 0 b) Γ) : WC G A X (.type "range") [.int b] Γ Q := .mk fun s vs S r => by
 apply ah.gQ r; intro v r1; have ri := r1.inv; clear r1; induction ri
 rename_i t
 refine PySem.call_range_1 ?_
 have z := S.push (s' := { s with heap := s.heap.push { cls := .type "range", data := .fields #[.int 0 s.toks, .int b t, .int 1 (s.toks + 1)] }, toks := s.toks + 1 + 1 }) rfl rfl rfl
 refine ⟨l0 0 b, Γ, .dS ?_, z.1, z.2, q⟩
 exact ⟨_, _, _, _, rfl, PySem.IsRange.new .., cJ S⟩
set_option tactic.hygienic true in
def WC.BB {a b : Int} (q : Q (l0 a b) Γ) : WC G A X (.type "range") [.int a, .int b] Γ Q := .mk fun s vs S r => by
 apply ah.iM r; intro v u r1 r2; have ri := r1.inv; clear r1; induction ri; have ri := r2.inv; clear r2; induction ri
 rename_i t u
 refine PySem.call_range_2 ?_
 have z := S.push (s' := { s with heap := s.heap.push { cls := .type "range", data := .fields #[.int a t, .int b u, .int 1 s.toks] }, toks := s.toks + 1 }) rfl rfl rfl
 refine ⟨l0 a b, Γ, .dS ?_, z.1, z.2, q⟩
 exact ⟨_, _, _, _, rfl, PySem.IsRange.new .., cJ S⟩
def vo {target : Expr} {it : Value} {i : Int} {t : Tok} {P : Unit -> Shared -> Prop} (q : P () s) : wpAny G.M A (letOwnedTupleGo target it (.int i t)) P X s := by
 rcases qS target it (.int i t) with e | e
 .rw [e]; exact wpAny_pure q
 .rw [e]; induction it <;> exact wpAny_pure q
noncomputable def cA (a : Int) (k : Nat) : List AV := (List.range k).map fun (i : Nat) => .int (a + (i : Int))
def fk.range (hR : aj A n) {target : Expr} {I : Addr} (a : Int) (k : Nat) : fk G A target I [I] (cA a k) (fun i V h => IsRangeIter h I (a + (i : Int)) ((k : Int) - (i : Int)) 1) where
 keep := fun i V V' h h' st kk kw => kw I (.head _) _ st
 obj := fun i V h st b hb => by cases hb with | head => exact ⟨_, st⟩ | tail _ h => cases h
 item := fun i x s V X P hx hw ha st hQ => by
  have hi : i < k /\ x = .int (a + (i : Int)) := by
   dsimp only [cA] at hx
   rw [List.getElem?_map, Option.map_eq_some_iff] at hx
   obtain ⟨j, hj, rfl⟩ := hx
   obtain ⟨h1, h2⟩ := List.getElem?_eq_some_iff.mp hj
   rw [List.getElem_range] at h2
   rw [List.length_range] at h1
   subst h2
   exact ⟨h1, rfl⟩
  obtain ⟨hi, rfl⟩ := hi
  refine PySem.wpAny_pyNext_range_item st (by tm_at "o") fun h' sT hs => ?_
  have k0 : ∀ b o, b ∉ [I] -> s.heap.get? b = some o -> h'.get? b = some o := fun b o nb e => (hs.2 b fun q => nb (q ▸ .head _)).trans e
  refine hQ _ h' _ k0 fun Xg Pg hP => vo (hP h' _ k0 (.int _ _) ?_)
  refine (show a + ((i + 1 : Nat) : Int) = a + (i : Int) + 1 from by tm_at "o") ▸ (show (k : Int) - ((i + 1 : Nat) : Int) = (k : Int) - (i : Int) - 1 from by tm_at "o") ▸ ?_
  exact sT
 done := fun s V X P st hQ => by
  have hl : (cA a k).length = k := by (dsimp only [cA]; simp)
  rw [hl] at st
  exact PySem.wpAny_pyNext_range_end hR.handled st (by tm_at "o") fun h' he => hQ h' s.toks fun b o nb e => he b o (fun q => nb (q ▸ .head _)) e
 self := fun i s V X P st q => PySem.wpAny_pyIter_rangeiter st q
theorem au.range (hR : aj A n) {target : Expr} {a b : Int} (h0 : -1000 <= a /\ a <= 1000) (h1 : -1000 <= b /\ b <= 1000) : au G A target 1 (l0 a b) ag (cA a (b - a).toNat) ag := fun s v X P S r h => by
 have ri := r.inv; clear r; induction ri with
 | dS q =>
  k_dflt obtain ⟨rr, t, u, w, rfl, hr, nv⟩ := q
  have hs : Builtin.Range.rangeSize a b 1 = ((b - a).toNat : Int) := by
   unfold Builtin.Range.rangeSize
   simp only [show (1 : Int) > 0 by decide, if_true, Int.ediv_one]
   split <;> tm_at "o"
  have small : Builtin.Range.small a b 1 = true := by
   unfold Builtin.Range.small
   rw [hs]
   unfold Builtin.Range.rangeFitsLong
   simp only [show (1 : Int) > 0 by decide, if_true, Bool.and_eq_true, Bool.or_eq_true, decide_eq_true_eq]
   refine ⟨⟨⟨⟨?_, ?_⟩, ?_⟩, ?_⟩, .inr ?_⟩ <;> constructor <;> tm_at "o"
  refine PySem.wpAny_pyIter_range hr small ?_
  have z := S.alloc (s' := { s with heap := s.heap.push { cls := .type "range_iterator", data := .fields #[rawInt a, rawInt (Builtin.Range.rangeSize a b 1), rawInt 1] } }) (o' := .obj { cls := .type "range_iterator", data := .fields #[rawInt a, rawInt (Builtin.Range.rangeSize a b 1), rawInt 1] }) rfl rfl rfl fun k => Heap.get?_push_size _ rfl
  refine h s.heap.objs.size [s.heap.objs.size] [_] _ _ rfl rfl (fk.range hR a (b - a).toNat) z.1 z.2 ?_
  skip
  rw [hs, show a + ((0 : Nat) : Int) = a from by tm_at "o", show ((b - a).toNat : Int) - ((0 : Nat) : Int) = ((b - a).toNat : Int) from by tm_at "o"]
  exact Heap.get?_push_size _ rfl
inductive zw (xs : List AV) (V : Addr -> Prop) (h : Heap) (a : Addr) : Prop
 | mk (b : Addr) (vs : List Value) (n : Nat) (hi : h.IsListIter a b 0) (ne : b ≠ a) (e : h.get? b = some (bW vs n)) (nv : ¬ V b) (r : ah V h vs xs)
noncomputable def AI (xs : List AV) : bG := .dS {
 P := fun _ => zw xs
 there := fun W V h a zz => (by refine gF fun Z => ?_; obtain ⟨b, vs, n, ⟨o, e, _⟩, _⟩ := zz; exact Z (⟨o, e⟩))
 keep := fun W V V' h h' a k ka zz => (by refine gF fun Z => ?_; obtain ⟨b, vs, n, ⟨o, e, q⟩, ne, e2, nv, r⟩ := zz; exact Z (⟨b, vs, n, ⟨o, ka _ e, q⟩, ne, (k _ _ e2 nv).1, (k _ _ e2 nv).2, r.keep k⟩))}
noncomputable def dM (i : Int) : List AV -> List AV
 | [] => []
 | x :: xs => .tup [.int i, x] :: dM (i + 1) xs
def xn : ∀ {xs : List AV} {i : Int} {k : Nat} {x : AV}, (dM i xs)[k]? = some x -> ∃ y, xs[k]? = some y /\ x = .tup [.int (i + (k : Int)), y] := by
 intro xs; induction xs with
 | nil => intro _ _ _ h; cases h
 | cons y xs ih =>
 intro i k x h
 induction k with
 | zero =>
  cases h
  exact ⟨y, rfl, by simp⟩
 | succ k =>
  obtain ⟨z, h1, h2⟩ := ih (i := i + 1) (k := k) h
  exact ⟨z, h1, by rw [h2]; congr 3; tm_at "o"⟩
theorem rq : ∀ (xs : List AV) (i : Int), (dM i xs).length = xs.length
 | [], _ => rfl
 | x :: xs, i => by (dsimp only [dM]; simp [rq])
abbrev Gm (e it l : Addr) (vs : List Value) (k : Nat) (xs : List AV) (i : Nat) (V : Addr -> Prop) (h : Heap) : Prop :=
 (∃ old, IsEnum h e it i old) /\ h.IsListIter it l i /\ h.get? l = some (bW vs k) /\ ¬ V l /\ ah V h vs xs
def fk.enum (hR : aj A n) {elts : List Expr} {x1 : Nat} {tp : Pos} {e it l : Addr} (h1 : e ≠ it) (h2 : l ≠ e) (h3 : l ≠ it) {vs : List Value} {k : Nat} {xs : List AV} (hlen : vs.length = xs.length) :
  fk G A (.Tuple elts x1 tp) e [e, it] (dM 0 xs) (Gm e it l vs k xs) where
 keep := fun i V V' h h' ⟨⟨old, s1⟩, s2, s3, s4, s5⟩ kk kw => ⟨⟨old, kw e (.head _) _ s1⟩, (by obtain ⟨o, ho, q⟩ := s2; exact ⟨o, kw it (.tail _ (.head _)) o ho, q⟩), (kk _ _ s3 s4).1, (kk _ _ s3 s4).2, s5.keep kk⟩
 obj := fun i V h ⟨⟨old, s1⟩, ⟨o, ho, _⟩, _⟩ b hb => by
  rcases List.mem_cons.mp hb with rfl | hb
  .exact ⟨_, s1⟩
  .rcases List.mem_cons.mp hb with rfl | hb
   .exact ⟨o, ho⟩
   .cases hb
 item := fun i x s V X P hx hw ha ⟨⟨old, s1⟩, s2, s3, s4, s5⟩ hQ => by
  obtain ⟨y, hy, rfl⟩ := xn hx
  obtain ⟨v, hv, rv⟩ := s5.get hy
  have np : ∀ b, b ∉ [e, it] -> b ≠ e /\ b ≠ it := fun b hb => ⟨fun q => hb (q ▸ .head _), fun q => hb (q ▸ .tail _ (.head _))⟩
  refine PySem.wpAny_pyNext_enum_item s1 s2 (IsList.of s3) (x := v) (by simpa using hv) h1 fun h' a1 a2 a3 a4 a5 => ?_
  refine hQ _ h' _ (fun b o nb q => a5 b o (np b nb).1 (np b nb).2 q) fun Xg Pg hP => ?_
  refine PySem.wpAny_letOwnedTupleGo_enum (s := { s with heap := h', toks := s.toks + 1 }) a1 fun iD b1 hs => ?_
  have Ew : s.heap.objs.size ≠ e := Nat.ne_of_gt (Heap.lt_size s1)
  have k2 : ∀ b o, b ∉ [e, it] -> s.heap.get? b = some o -> iD.get? b = some o := fun b o nb q => (hs.2 b (np b nb).1).trans (a5 b o (np b nb).1 (np b nb).2 q)
  have kV : fK V V s.heap iD := fun b o q nv => ⟨k2 b o (fun z => nv (hw b z)) q, nv⟩
  have fresh : ¬ V s.heap.objs.size := fun q => by obtain ⟨o, e⟩ := ha _ q; rw [bK] at e; contradiction
  refine hP iD _ k2 (.tup (vs := [.int i s.toks, v]) (n := 0) ((hs.2 _ Ew).trans a3) fresh (.cons (by rw [show (0 : Int) + (i : Int) = (i : Int) from by tm_at "o"]; exact .int _ _) (.one (rv.keep kV)))) ?_
  exact ⟨⟨_, by rw [show (((i + 1 : Nat)) : Int) = (i : Int) + 1 from by tm_at "o"]; exact b1⟩, a2.extBut hs.extBut (Ne.symm h1), (kV _ _ s3 s4).1, s4, s5.keep kV⟩
 done := fun s V X P ⟨⟨old, s1⟩, s2, s3, s4, s5⟩ hQ => by
  rw [rq] at s1 s2
  exact PySem.wpAny_pyNext_enum_end hR.handled s1 s2 (IsList.of s3) (by simp [hlen]) fun h' he => hQ h' s.toks fun b o nb q => he b o (fun z => nb (z ▸ .tail _ (.head _))) q
 self := fun i s V X P ⟨⟨old, s1⟩, _⟩ q => PySem.wpAny_pyIter_enum s1 q
noncomputable abbrev il (I : Addr) : Obj := { cls := .type "enumerate", dict := none, data := .fields #[.none, .bool false, .ref I, rawInt 0, .none, .none], slots := #[] }
set_option tactic.hygienic true in
theorem WC.enumerate {xs : List AV} (q : ∀ v ae, (∀ {A' : Around} {n' : Nat} elts k tp, aj A' n' -> au G A' (.Tuple elts k tp) 2 v ae (dM 0 xs) Γ) -> Q v ae) : WC G A X (.type "enumerate") [.lst xs] Γ Q := .mk fun s vs S r => by
 apply ah.gQ r; intro v r1
 cases r1.inv with
 | lst e nv rs =>
  rename_i l us m
  refine PySem.call_enumerate_list (IsList.of e) fun h' a1 a2 a3 a4 => ?_
  have hI := bK s.heap
  have hE : s.heap.get? (s.heap.objs.size + 1) = none := Heap.get?_none_of_le (Nat.le_succ _)
  have iG : s.heap.objs.size + 1 ≠ s.heap.objs.size := Nat.succ_ne_self _
  have Ez : l < s.heap.objs.size := Heap.lt_size e
  have nk : ∀ b, s.heap.get? b = none -> b ∉ keys Γ := fun b e q => S.fresh e (.inr q)
  have z := S.go (ae := (s.heap.objs.size + 1, .obj (il s.heap.objs.size)) :: (s.heap.objs.size, AI xs) :: Γ) (s' := { s with heap := h' })
   (fun b => b = s.heap.objs.size + 1 \/ b = s.heap.objs.size) (fun b hb => .inr (by rcases hb with rfl | rfl; exact hE; exact hI)) (fun b o e _ => a4 b o e)
   (fun w hw => by
    rcases List.mem_cons.mp hw with rfl | hw
    .exact .inr (.inl rfl)
    .rcases List.mem_cons.mp hw with rfl | hw
     .exact .inr (.inr rfl)
     .exact .inl hw) (fun kk w hw hC => by
    rcases List.mem_cons.mp hw with rfl | hw
    .exact a1
    .rcases List.mem_cons.mp hw with rfl | hw
     .exact ⟨l, us, m, a2, Nat.ne_of_lt Ez, (kk _ _ e nv).1, (kk _ _ e nv).2, rs.keep kk⟩
     .exfalso
      have := List.mem_map_of_mem (f := Prod.fst) hw
      rcases hC with q | q
      .exact nk _ hE (q ▸ this)
      .exact nk _ hI (q ▸ this))
   (List.nodup_cons.mpr ⟨fun q => by
    rcases List.mem_cons.mp q with q | q
    .exact iG q
    .exact nk _ hE q, List.nodup_cons.mpr ⟨nk _ hI, S.nodup⟩⟩) rfl rfl
  refine .here (.raw _) z.1 z.2 (q _ _ ?_)
  intro A' n' elts k tp hR ay Gn Bx P ax BA hP
  apply Rep.bX BA
  have o1 := ax.own _ (.head _)
  k_dflt obtain ⟨b, ws, m', JW, nb, eb, HN, rb⟩ := ax.own _ (.tail _ (.head _))
  obtain ⟨oi, HO, hq⟩ := JW
  have JX : b ≠ s.heap.objs.size + 1 := fun q => HN (q ▸ .inr (.head _))
  refine PySem.wpAny_pyIter_enum (s := ay) o1 ?_
  have LA : Γ.map Prod.fst = keys Γ := rfl
  have SS : aM G (aY [s.heap.objs.size + 1, s.heap.objs.size] [il s.heap.objs.size, oi] ++ Γ) ay := by
   have zz := ax.go (ae := (s.heap.objs.size + 1, .obj (il s.heap.objs.size)) :: (s.heap.objs.size, .obj oi) :: Γ) (s' := ay)
    (fun b => b = s.heap.objs.size) (fun b hb => .inl (hb ▸ .tail _ (.head _))) (fun b o e _ => e) (fun w hw => by
     rcases List.mem_cons.mp hw with rfl | hw
     .exact .inl (.head _)
     .rcases List.mem_cons.mp hw with rfl | hw
      .exact .inr rfl
      .exact .inl (.tail _ (.tail _ hw))) (fun kk w hw hC => by
     rcases List.mem_cons.mp hw with rfl | hw
     .exact absurd hC iG
     .rcases List.mem_cons.mp hw with rfl | hw
      .exact HO
      .exact absurd (show s.heap.objs.size ∈ keys Γ from List.mem_map.mpr ⟨_, hw, hC⟩) (List.nodup_cons.mp (List.nodup_cons.mp ax.nodup).2).1) ax.nodup rfl rfl
   exact zz.1
  have qR : bc G (aY [s.heap.objs.size + 1, s.heap.objs.size] [(il s.heap.objs.size), oi] ++ Γ) = bc G ((s.heap.objs.size + 1, .obj (il s.heap.objs.size)) :: (s.heap.objs.size, AI xs) :: Γ) := rfl
  exact hP _ [s.heap.objs.size + 1, s.heap.objs.size] [il s.heap.objs.size, oi] _ ay rfl rfl (fk.enum hR (k := m') iG JX nb rb.length) SS ⟨fun _ _ o e => ⟨o, e⟩, fun _ _ e _ => e, fun _ q => .inl q⟩ ⟨⟨_, o1⟩, ⟨oi, HO, hq⟩, eb, qR ▸ HN, qR ▸ rb⟩
end
end
section
def ju (h : Heap) (i l : Addr) (k : Nat) (vs : List Value) : Prop := (h.IsListIter i l k /\ h.IsList l vs.toArray) \/ (h.IsTupleIter i l k /\ h.IsTuple l vs.toArray)
def ju.keep {h h' : Heap} {i l : Addr} {k : Nat} {vs : List Value} (x : ju h i l k vs) (e1 : ∀ o, h.get? i = some o -> h'.get? i = some o) (e2 : ∀ o, h.get? l = some o -> h'.get? l = some o) : ju h' i l k vs :=
 x.elim (fun zz => (by obtain ⟨a, b⟩ := zz; exact .inl ⟨a.at e1, b.at e2⟩)) fun zz => (by obtain ⟨a, b⟩ := zz; exact .inr ⟨a.at e1, b.at e2⟩)
def ju.there {h : Heap} {i l : Addr} {k : Nat} {vs : List Value} (x : ju h i l k vs) : (∃ o, h.get? i = some o) /\ ∃ o, h.get? l = some o := by
 rcases x with ⟨⟨o, e, _⟩, ⟨o', e', _⟩⟩ | ⟨⟨o, e, _⟩, ⟨o', e', _⟩⟩ <;> exact ⟨⟨_, e⟩, ⟨_, e'⟩⟩
section
variable {prog : Program} {w : PySem.World} {A : Around} {E : Value -> Shared -> Prop} {s : Shared} {i l : Addr} {k : Nat} {vs : List Value}
def next_item {x : Value} {Q : Value -> Shared -> Prop} (it : ju s.heap i l k vs) (ne : l ≠ i) (hx : vs[k]? = some x)
  (hQ : ∀ h', ju h' i l (k + 1) vs -> Heap.SameBut i s.heap h' -> Q x { s with heap := h' }) : wpAny (model prog w) A (Builtin.SmallTypes.nextOf (.ref i)) Q E s := by
 rcases it with ⟨a, b⟩ | ⟨a, b⟩
 .exact PySem.wpAny_nextOf_list_item a b (by simpa using hx) fun h' a' hs => hQ h' (.inl ⟨a', b.extBut hs.extBut ne⟩) hs
 .have b0 := b
  obtain ⟨o, ho, hc, hd⟩ := id a
  obtain ⟨ol, Gp, _, nl, yR⟩ := b
  skip
  refine wpAny_bind (wpAny_callSpecial?_slot (name := oS "__next__") a.typeIs PySem.F.slot_tuple_iterator_next
   (wpAny_call_entry PySem.F.slot_tuple_iterator_next a.typeIs PySem.F.entry_tuple_iterator_next ?_ (PySem.F.args_tuple_iterator_next_1 _)))
  show wpAny _ _ (field (.ref i) 0 >>= _) _ _ s
  refine wpAny_bind (wpAny_field ho hd (x := .ref l) rfl ?_)
  refine (if_neg (show ¬ ((Value.ref l == Value.none) = true) from Bool.false_ne_true)) ▸ ?_
  refine wpAny_bind (wpAny_field ho hd (x := .int k 0) rfl ?_)
  refine wpAny_bind (wpAny_seqItems Gp yR ?_)
  have xb : vs.toArray[k]? = some x := by simpa using hx
  simp only [Int.toNat_natCast, xb]
  refine wpAny_bind (wpAny_setField ho hd (by simp) (wpAny_pure ⟨x, rfl, wpAny_pure (hQ _ (.inr ⟨?_, b0.at fun o e => (Heap.get?_update_other _ _ (Ne.symm ne)).trans e⟩) (Heap.SameBut.update ..))⟩))
  exact ⟨_, Heap.get?_update_self _ ho (Obj.isFreed_of_fields (Obj.data_mapFields hd _)), (Obj.cls_mapFields ..).trans hc, by
   rw [Obj.data_mapFields hd]; rfl⟩
def next_end {Q : Value -> Shared -> Prop} (hh : A.handled = none) (it : ju s.heap i l k vs) (hx : vs[k]? = none)
  (hE : ∀ h' e, Heap.ExtBut i s.heap h' -> (∃ o, h'.get? e = some o /\ o.cls = .type "StopIteration") -> E (.ref e) { s with heap := h' }) : wpAny (model prog w) A (Builtin.SmallTypes.nextOf (.ref i)) Q E s := by
 k_dflt rcases it with ⟨a, b⟩ | ⟨a, b⟩
 .exact PySem.wpAny_nextOf_list_end hh a b (by simpa using hx) hE
 .k_dflt obtain ⟨o, ho, hc, hd⟩ := id a
  k_dflt obtain ⟨ol, Gp, _, nl, yR⟩ := b
  unfold Builtin.SmallTypes.nextOf
  refine wpAny_bind (wpAny_callSpecial?_slot (name := oS "__next__") a.typeIs PySem.F.slot_tuple_iterator_next
   (wpAny_call_entry PySem.F.slot_tuple_iterator_next a.typeIs PySem.F.entry_tuple_iterator_next ?_ (PySem.F.args_tuple_iterator_next_1 _)))
  show wpAny _ _ (field (.ref i) 0 >>= _) _ _ s
  refine wpAny_bind (wpAny_field ho hd (x := .ref l) rfl ?_)
  refine (if_neg (show ¬ ((Value.ref l == Value.none) = true) from Bool.false_ne_true)) ▸ ?_
  refine wpAny_bind (wpAny_field ho hd (x := .int k 0) rfl ?_)
  refine wpAny_bind (wpAny_seqItems Gp yR ?_)
  have xb : vs.toArray[k]? = none := by simpa using hx
  simp only [Int.toNat_natCast, xb]
  refine wpAny_bind (wpAny_rule (wpAny_bind (wpAny_setField ho hd (by simp) ?_)))
  show wpAny _ _ (newExc (.type "StopIteration") [] >>= _) _ _ _
  refine wpAny_bind ?_
  skip
  refine wpAny_bind (wpAny_newObj_type ?_ (by size_fits))
  refine wpAny_bind (m := firstArgMember _ _) (wpAny_of_eq (a := Value.none) (by first | rfl | (simp only [firstArgMember]; rfl)) ?_)
  refine wpAny_newObj_type ?_ (by size_fits)
  skip
  refine wpAny_bind (wpAny_handled ?_)
  first | refine (show A.in1.handled = none from hh) ▸ ?_ | rw [hh]
  refine wpAny_bind (wpAny_pure (wpAny_throw ?_))
  exact hE _ _ (((Heap.SameBut.update ..).extBut.push _).push _) ⟨_, Heap.get?_push_size _ rfl, rfl⟩
noncomputable abbrev j5 (f0 f1 : Value) (TI TO : Addr) : Obj := { cls := .type "zip", dict := none, data := .fields #[f0, f1, .bool false, .ref TI, .ref TO], slots := #[] }
structure ZS (h : Heap) (z TI TO i1 i2 l1 l2 : Addr) (k : Nat) (xs ys : List Value) (f0 f1 : Value) : Prop where
 ap : ZipApart z TI TO i1 i2 l1 l2
 oz : h.get? z = some (j5 f0 f1 TI TO)
 oI : IsPair h TI (.ref i1) (.ref i2)
 oO : ∃ a b, IsPair h TO a b
 a1 : ju h i1 l1 k xs
 a2 : ju h i2 l2 k ys
variable {z TI TO i1 i2 l1 l2 : Addr} {xs ys : List Value} {f1 : Value}
abbrev iY (z TO i1 i2 c : Addr) : Prop := c ≠ z /\ c ≠ TO /\ c ≠ i1 /\ c ≠ i2
def rt {x y : Value} {Q : Value -> Shared -> Prop} (Z : ZS s.heap z TI TO i1 i2 l1 l2 k xs ys .none (.bool false)) (hx : xs[k]? = some x) (hy : ys[k]? = some y)
  (hQ : ∀ h' (T : Addr), ZS h' z TI TO i1 i2 l1 l2 (k + 1) xs ys (rawInt T) (.bool false) -> IsPair h' T x y -> s.heap.get? T = none -> (∀ c o, iY z TO i1 i2 c -> s.heap.get? c = some o -> h'.get? c = some o) -> Q (.ref T) { s with heap := h' }) :
  wpAny (model prog w) A (Builtin.«zip.__next__» ⟨[.ref z], []⟩) (fun fin s' => ∃ v, fin = .done (.ret v) /\ Q v s') E s := by
 obtain ⟨D, hz, BC, ⟨a, b, Ds⟩, h1, h2⟩ := Z
 show wpAny _ _ (field (.ref z) 2 >>= _) _ _ _
 refine wpAny_bind (wpAny_field hz rfl (x := .bool false) rfl ?_)
 refine wpAny_bind (wpAny_field hz rfl (x := .ref TI) rfl ?_)
 refine wpAny_bind (wpAny_seqItems BC rfl ?_)
 skip
 refine wpAny_bind ?_
 skip
 refine wpAny_bind (wpAny_field hz rfl (x := .none) rfl (wpAny_pure ?_))
 skip
 refine wpAny_bind (wpAny_rule ?_)
 refine wpAny_bind (wpAny_field hz rfl (x := .ref TO) rfl ?_)
 refine wpAny_bind (wpAny_setField_rec hz (by simp) fun q1 z1 s1 => ?_)
 replace z1 : q1.get? z = some (j5 .ellipsis (.bool false) TI TO) := z1
 refine wpAny_bind ?_
 simp only [List.zipIdx_cons, List.zipIdx_nil, List.forIn_cons, List.forIn_nil]
 have k1 : ∀ c o, c ≠ z -> s.heap.get? c = some o -> q1.get? c = some o := fun c o n e => s1.extBut _ _ n e
 refine wpAny_bind (wpAny_bind (wpAny_onRaise ?_))
 refine wpAny_bind (next_item (s := { s with heap := q1 }) (h1.keep (fun o e => k1 _ o D.i1z e) fun o e => k1 _ o D.l1z e) D.l1i1 hx fun q2 m2 s2 => wpAny_pure ?_)
 have k2 : ∀ c o, c ≠ i1 -> q1.get? c = some o -> q2.get? c = some o := fun c o n e => s2.extBut _ _ n e
 have t2 : IsPair q2 TO a b := k2 _ _ D.TOi1 (k1 _ _ D.TOz Ds)
 refine wpAny_bind (wpAny_seqItems t2 rfl ?_)
 refine wpAny_bind (wpAny_updateSeq_pair t2 fun q3 t3 s3 => ?_)
 replace t3 : IsPair q3 TO x b := t3
 have k3 : ∀ c o, c ≠ TO -> q2.get? c = some o -> q3.get? c = some o := fun c o n e => s3.extBut _ _ n e
 refine wpAny_bind (wpAny_letGo (wpAny_pure ?_))
 refine wpAny_bind (wpAny_bind (wpAny_onRaise ?_))
 refine wpAny_bind (next_item (s := { s with heap := q3 }) (h2.keep (fun o e => k3 _ o D.TOi2.symm (k2 _ o D.i12.symm (k1 _ o D.i2z e))) fun o e => k3 _ o D.l2TO (k2 _ o D.l2i1 (k1 _ o D.l2z e))) D.l2i2 hy fun q4 m4 s4 => wpAny_pure ?_)
 have k4 : ∀ c o, c ≠ i2 -> q3.get? c = some o -> q4.get? c = some o := fun c o n e => s4.extBut _ _ n e
 have t4 : IsPair q4 TO x b := k4 _ _ D.TOi2 t3
 refine wpAny_bind (wpAny_seqItems t4 rfl ?_)
 refine wpAny_bind (wpAny_updateSeq_pair t4 fun q5 t5 s5 => ?_)
 replace t5 : IsPair q5 TO x y := t5
 have k5 : ∀ c o, c ≠ TO -> q4.get? c = some o -> q5.get? c = some o := fun c o n e => s5.extBut _ _ n e
 refine wpAny_bind (wpAny_letGo (wpAny_pure (wpAny_pure ?_)))
 refine wpAny_bind (wpAny_seqItems t5 rfl ?_)
 refine wpAny_bind (wpAny_newTuple ?_)
 have all : ∀ c o, c ≠ z -> c ≠ TO -> c ≠ i1 -> c ≠ i2 -> s.heap.get? c = some o -> q5.get? c = some o := fun c o c1 c2 c3 c4 e => k5 _ _ c2 (k4 _ _ c4 (k3 _ _ c2 (k2 _ _ c3 (k1 _ _ c1 e))))
 have z5 : q5.get? z = some (j5 .ellipsis (.bool false) TI TO) := k5 _ _ D.TOz.symm (k4 _ _ D.i2z.symm (k3 _ _ D.TOz.symm (k2 _ _ D.i1z.symm z1)))
 have vd : q5.objs.size = s.heap.objs.size := by rw [s5.1, s4.1, s3.1, s2.1, s1.1]
 have hT : s.heap.get? q5.objs.size = none := Heap.get?_none_of_le (Nat.le_of_eq vd.symm)
 skip
 refine wpAny_bind ?_
 skip
 have z6 : (q5.push { cls := .type "tuple", data := .seq #[x, y] }).get? z = some (j5 .ellipsis (.bool false) TI TO) := Heap.get?_push_of_some _ z5
 refine wpAny_bind (wpAny_setField_rec z6 (by simp) fun q7 z7 s7 => ?_)
 replace z7 : q7.get? z = some (j5 (rawInt q5.objs.size) (.bool false) TI TO) := z7
 refine wpAny_setField_rec z7 (by simp) fun q8 z8 s8 => ?_
 replace z8 : q8.get? z = some (j5 (rawInt q5.objs.size) (.bool false) TI TO) := z8
 have up : ∀ c o, c ≠ z -> q5.get? c = some o -> q8.get? c = some o := fun c o c1 e => s8.extBut _ _ c1 (s7.extBut _ _ c1 (Heap.get?_push_of_some _ e))
 refine wpAny_pure ⟨_, rfl, hQ q8 _ ⟨D, z8, up _ _ D.TIz (all _ _ D.TIz D.TITO D.TIi1 D.TIi2 BC), ⟨_, _, up _ _ D.TOz t5⟩, ?_, ?_⟩ (s8.extBut _ _ (Nat.ne_of_gt (Heap.lt_size z5)) (s7.extBut _ _ (Nat.ne_of_gt (Heap.lt_size z5)) (Heap.get?_push_size _ rfl))) hT fun c o ⟨c1, c2, c3, c4⟩ e => up c o c1 (all c o c1 c2 c3 c4 e)⟩
 .exact m2.keep (fun o e => up _ o D.i1z (k5 _ o D.TOi1.symm (k4 _ o D.i12 (k3 _ o D.TOi1.symm e)))) fun o e => up _ o D.l1z (k5 _ o D.l1TO (k4 _ o D.l1i2 (k3 _ o D.l1TO e)))
 .exact m4.keep (fun o e => up _ o D.i2z (k5 _ o D.TOi2.symm e)) fun o e => up _ o D.l2z (k5 _ o D.l2TO e)
def rz {M : Model} {a : Addr} {Q : Option Obj -> Shared -> Prop} (h : Q (s.heap.get? a) s) : wpAny M A (PySem.loadIfAlive a) Q E s := fun Γ p _ => by
 skip
 exact h
def rA {T : Addr} {oT : Obj} {b : Bool} {Q : Bool -> Shared -> Prop} (hz : s.heap.get? z = some (j5 (rawInt T) (.bool b) TI TO)) (hT : s.heap.get? T = some oT)
  (hQ : ∀ h', h'.get? z = some (j5 (rawInt T) (.bool true) TI TO) -> Heap.SameBut z s.heap h' -> Q false { s with heap := h' }) :
  wpAny (model prog w) A (Builtin.SmallTypes.ownedTupleIsFree (.ref z)) Q E s := by
 unfold Builtin.SmallTypes.ownedTupleIsFree
 refine wpAny_bind (wpAny_field hz rfl (x := rawInt T) rfl ?_)
 skip
 refine wpAny_bind (rz ?_)
 refine (show ((T : Int)).toNat = T from rfl) ▸ hT ▸ ?_
 dsimp only [Option.isNone]
 rw [if_neg Bool.false_ne_true]
 refine wpAny_bind (wpAny_field hz rfl (x := .bool b) rfl ?_)
 cases b with
 | true =>
  rw [if_neg (by decide)]
  exact wpAny_pure (by obtain ⟨hp, g, d, tk, os⟩ := s; exact hQ hp hz (.refl ..))
 | false =>
  rw [if_pos (by decide)]
  refine wpAny_bind (wpAny_setField_rec hz (by simp) fun q1 z1 s1 => wpAny_pure (hQ q1 z1 s1))
def xo {T : Addr} {oT : Obj} {b : Bool} {x y : Value} {Q : Value -> Shared -> Prop} (Z : ZS s.heap z TI TO i1 i2 l1 l2 k xs ys (rawInt T) (.bool b)) (hT : s.heap.get? T = some oT) (hx : xs[k]? = some x) (hy : ys[k]? = some y)
  (hQ : ∀ h' (T' : Addr), ZS h' z TI TO i1 i2 l1 l2 (k + 1) xs ys (rawInt T) (.bool true) -> IsPair h' T' x y -> s.heap.get? T' = none -> (∀ c o, iY z TO i1 i2 c -> s.heap.get? c = some o -> h'.get? c = some o) -> Q (.ref T') { s with heap := h' }) :
  wpAny (model prog w) A (Builtin.«zip.__next__» ⟨[.ref z], []⟩) (fun fin s' => ∃ v, fin = .done (.ret v) /\ Q v s') E s := by
 obtain ⟨D, hz, BC, ⟨a, b', Ds⟩, h1, h2⟩ := Z
 show wpAny _ _ (field (.ref z) 2 >>= _) _ _ _
 refine wpAny_bind (wpAny_field hz rfl (x := .bool false) rfl ?_)
 refine wpAny_bind (wpAny_field hz rfl (x := .ref TI) rfl ?_)
 refine wpAny_bind (wpAny_seqItems BC rfl ?_)
 skip
 refine wpAny_bind (rA hz hT fun q1 z1 s1 => ?_)
 have k1 : ∀ c o, c ≠ z -> s.heap.get? c = some o -> q1.get? c = some o := fun c o n e => s1.extBut _ _ n e
 skip
 refine wpAny_bind ?_
 simp only [List.forIn_cons, List.forIn_nil, Array.forIn_toList.symm]
 refine wpAny_bind (wpAny_bind (wpAny_holding ?_))
 refine wpAny_bind (next_item (s := { s with heap := q1 }) (h1.keep (fun o e => k1 _ o D.i1z e) fun o e => k1 _ o D.l1z e) D.l1i1 hx fun q2 m2 s2 => wpAny_pure ?_)
 have k2 : ∀ c o, c ≠ i1 -> q1.get? c = some o -> q2.get? c = some o := fun c o n e => s2.extBut _ _ n e
 refine wpAny_pure ?_
 refine wpAny_bind (wpAny_bind (wpAny_holding ?_))
 refine wpAny_bind (next_item (s := { s with heap := q2 }) (h2.keep (fun o e => k2 _ o D.i12.symm (k1 _ o D.i2z e)) fun o e => k2 _ o D.l2i1 (k1 _ o D.l2z e)) D.l2i2 hy fun q4 m4 s4 => wpAny_pure ?_)
 have k4 : ∀ c o, c ≠ i2 -> q2.get? c = some o -> q4.get? c = some o := fun c o n e => s4.extBut _ _ n e
 refine wpAny_pure (wpAny_pure ?_)
 refine wpAny_bind (wpAny_newTuple ?_ (show 2 <= sizeLine by decide))
 have all : ∀ c o, c ≠ z -> c ≠ i1 -> c ≠ i2 -> s.heap.get? c = some o -> q4.get? c = some o := fun c o c1 c3 c4 e => k4 _ _ c4 (k2 _ _ c3 (k1 _ _ c1 e))
 have vd : q4.objs.size = s.heap.objs.size := by rw [s4.1, s2.1, s1.1]
 have up : ∀ c o, q4.get? c = some o -> (q4.push { cls := .type "tuple", data := .seq #[x, y] }).get? c = some o := fun c o e => Heap.get?_push_of_some _ e
 refine wpAny_pure ⟨_, rfl, hQ _ _ ⟨D, up _ _ (k4 _ _ D.i2z.symm (k2 _ _ D.i1z.symm z1)), up _ _ (all _ _ D.TIz D.TIi1 D.TIi2 BC), ⟨_, _, up _ _ (all _ _ D.TOz D.TOi1 D.TOi2 Ds)⟩, ?_, ?_⟩ (Heap.get?_push_size _ rfl) (Heap.get?_none_of_le (Nat.le_of_eq vd.symm)) fun c o ⟨c1, c2, c3, c4⟩ e => up c o (all c o c1 c3 c4 e)⟩
 .exact m2.keep (fun o e => up _ o (k4 _ o D.i12 e)) fun o e => up _ o (k4 _ o D.l1i2 e)
 .exact m4.keep (fun o e => up _ o e) fun o e => up _ o e
def xp {f0 : Value} {Q : PySem.Fin -> Shared -> Prop} (hh : A.handled = none) (Z : ZS s.heap z TI TO i1 i2 l1 l2 k xs ys f0 f1) (hf : (f0 = .none /\ f1 = .bool false) \/ ∃ T oT b, f0 = rawInt (T : Addr) /\ f1 = .bool b /\ s.heap.get? T = some oT) (rB : xs[k]? = none \/ ys[k]? = none)
  (hE : ∀ h' e, (∀ c o, iY z TO i1 i2 c -> s.heap.get? c = some o -> h'.get? c = some o) -> (∃ o, h'.get? e = some o /\ o.cls = .type "StopIteration") -> E (.ref e) { s with heap := h' }) :
  wpAny (model prog w) A (Builtin.«zip.__next__» ⟨[.ref z], []⟩) Q E s := by
 obtain ⟨D, hz, BC, ⟨a, b', Ds⟩, h1, h2⟩ := Z
 show wpAny _ _ (field (.ref z) 2 >>= _) _ _ _
 refine wpAny_bind (wpAny_field hz rfl (x := .bool false) rfl ?_)
 refine wpAny_bind (wpAny_field hz rfl (x := .ref TI) rfl ?_)
 refine wpAny_bind (wpAny_seqItems BC rfl ?_)
 skip
 rcases hf with ⟨rfl, rfl⟩ | ⟨T, oT, b, rfl, rfl, hT⟩
 .refine wpAny_bind ?_
  skip
  refine wpAny_bind (wpAny_field hz rfl (x := .none) rfl (wpAny_pure ?_))
  simp only [if_true]
  refine wpAny_bind (wpAny_rule ?_)
  refine wpAny_bind (wpAny_field hz rfl (x := .ref TO) rfl ?_)
  refine wpAny_bind (wpAny_setField_rec hz (by simp) fun q1 z1 s1 => ?_)
  replace z1 : q1.get? z = some (j5 .ellipsis (.bool false) TI TO) := z1
  refine wpAny_bind ?_
  simp only [List.zipIdx_cons, List.zipIdx_nil, List.forIn_cons, List.forIn_nil]
  have k1 : ∀ c o, c ≠ z -> s.heap.get? c = some o -> q1.get? c = some o := fun c o n e => s1.extBut _ _ n e
  refine wpAny_bind (wpAny_bind (wpAny_onRaise ?_))
  have Dt : ju q1 i1 l1 k xs := h1.keep (fun o e => k1 _ o D.i1z e) fun o e => k1 _ o D.l1z e
  cases hx : xs[k]? with
  | none =>
   refine wpAny_bind (next_end (s := { s with heap := q1 }) hh Dt hx fun q2 e s2 he => ?_)
   obtain ⟨oe, BE, Bv⟩ := he
   have z2 : q2.get? z = some (j5 .ellipsis (.bool false) TI TO) := s2 _ _ D.i1z.symm z1
   have Gq : e ≠ z := fun x => by subst x; rw [z2] at BE; obtain rfl := Option.some.inj BE; simp at Bv
   refine wpAny_setField_rec z2 (by simp) fun q3 _ s3 => hE q3 e (fun c o ⟨c1, _, c3, _⟩ x => s3.extBut _ _ c1 (s2 _ _ c3 (k1 _ _ c1 x))) ⟨oe, s3.extBut _ _ Gq BE, Bv⟩
  | some x =>
   have hy : ys[k]? = none := by rcases rB with h | h; rw [hx] at h; contradiction; exact h
   refine wpAny_bind (next_item (s := { s with heap := q1 }) Dt D.l1i1 hx fun q2 m2 s2 => wpAny_pure ?_)
   have k2 : ∀ c o, c ≠ i1 -> q1.get? c = some o -> q2.get? c = some o := fun c o n e => s2.extBut _ _ n e
   have t2 : IsPair q2 TO a b' := k2 _ _ D.TOi1 (k1 _ _ D.TOz Ds)
   refine wpAny_bind (wpAny_seqItems t2 rfl ?_)
   refine wpAny_bind (wpAny_updateSeq_pair t2 fun q3 t3 s3 => ?_)
   have k3 : ∀ c o, c ≠ TO -> q2.get? c = some o -> q3.get? c = some o := fun c o n e => s3.extBut _ _ n e
   refine wpAny_bind (wpAny_letGo (wpAny_pure ?_))
   refine wpAny_bind (wpAny_bind (wpAny_onRaise ?_))
   refine wpAny_bind (next_end (s := { s with heap := q3 }) hh (h2.keep (fun o e => k3 _ o D.TOi2.symm (k2 _ o D.i12.symm (k1 _ o D.i2z e))) fun o e => k3 _ o D.l2TO (k2 _ o D.l2i1 (k1 _ o D.l2z e))) hy fun q4 e s4 he => ?_)
   obtain ⟨oe, BE, Bv⟩ := he
   have z4 : q4.get? z = some (j5 .ellipsis (.bool false) TI TO) := s4 _ _ D.i2z.symm (k3 _ _ D.TOz.symm (k2 _ _ D.i1z.symm z1))
   have Gq : e ≠ z := fun x => by subst x; rw [z4] at BE; obtain rfl := Option.some.inj BE; simp at Bv
   refine wpAny_setField_rec z4 (by simp) fun q5 _ s5 => hE q5 e (fun c o ⟨c1, c2, c3, c4⟩ x => s5.extBut _ _ c1 (s4 _ _ c4 (k3 _ _ c2 (k2 _ _ c3 (k1 _ _ c1 x))))) ⟨oe, s5.extBut _ _ Gq BE, Bv⟩
 .refine wpAny_bind (rA hz hT fun q1 z1 s1 => ?_)
  have k1 : ∀ c o, c ≠ z -> s.heap.get? c = some o -> q1.get? c = some o := fun c o n e => s1.extBut _ _ n e
  skip
  refine wpAny_bind ?_
  simp only [List.forIn_cons, List.forIn_nil, Array.forIn_toList.symm]
  refine wpAny_bind (wpAny_bind (wpAny_holding ?_))
  have Dt : ju q1 i1 l1 k xs := h1.keep (fun o e => k1 _ o D.i1z e) fun o e => k1 _ o D.l1z e
  cases hx : xs[k]? with
  | none =>
   refine wpAny_bind (next_end (s := { s with heap := q1 }) hh Dt hx fun q2 e s2 he => ?_)
   exact hE q2 e (fun c o ⟨c1, _, c3, _⟩ x => s2 _ _ c3 (k1 _ _ c1 x)) he
  | some x =>
   have hy : ys[k]? = none := by rcases rB with h | h; rw [hx] at h; contradiction; exact h
   refine wpAny_bind (next_item (s := { s with heap := q1 }) Dt D.l1i1 hx fun q2 m2 s2 => wpAny_pure ?_)
   have k2 : ∀ c o, c ≠ i1 -> q1.get? c = some o -> q2.get? c = some o := fun c o n e => s2.extBut _ _ n e
   refine wpAny_pure ?_
   refine wpAny_bind (wpAny_bind (wpAny_holding ?_))
   refine wpAny_bind (next_end (s := { s with heap := q2 }) hh (h2.keep (fun o e => k2 _ o D.i12.symm (k1 _ o D.i2z e)) fun o e => k2 _ o D.l2i1 (k1 _ o D.l2z e)) hy fun q4 e s4 he => ?_)
   exact hE q4 e (fun c o ⟨c1, _, c3, c4⟩ x => s4 _ _ c4 (k2 _ _ c3 (k1 _ _ c1 x))) he
def pO {f0 x y : Value} {Q : Option Value -> Shared -> Prop} (Z : ZS s.heap z TI TO i1 i2 l1 l2 k xs ys f0 f1) (hf : (f0 = .none /\ f1 = .bool false) \/ ∃ T oT b, f0 = rawInt (T : Addr) /\ f1 = .bool b /\ s.heap.get? T = some oT) (hx : xs[k]? = some x) (hy : ys[k]? = some y)
  (hQ : ∀ h' (T T' : Addr) oT b, ZS h' z TI TO i1 i2 l1 l2 (k + 1) xs ys (rawInt T) (.bool b) -> h'.get? T = some oT -> IsPair h' T' x y -> s.heap.get? T' = none -> (∀ c o, iY z TO i1 i2 c -> s.heap.get? c = some o -> h'.get? c = some o) -> Q (some (.ref T')) { s with heap := h' }) :
  wpAny (model prog w) A (pyNext (.ref z)) Q E s := by
 have hT : s.TypeIs (.ref z) "zip" := ⟨_, Z.oz, rfl⟩
 skip
 refine wpAny_bind (wpAny_attempt (wpAny_callSpecial?_slot (name := oS "__next__") hT PySem.F.slot_zip_next (wpAny_call_entry PySem.F.slot_zip_next hT PySem.F.entry_zip_next ?_ (PySem.F.args_zip_next_1 _))))
 rcases hf with ⟨rfl, rfl⟩ | ⟨T, oT, b, rfl, rfl, HP⟩
 .exact rt Z hx hy fun h' T Z' hp hn k => wpAny_pure (hQ h' T T _ false Z' hp hp hn k)
 .refine xo Z HP hx hy fun h' T' Z' hp hn k => ?_
  have : ∃ o, h'.get? T = some o := by
   by_cases c1 : T = z
   .rw [c1]; exact ⟨_, Z'.oz⟩
   by_cases c2 : T = TO
   .rw [c2]; obtain ⟨_, _, e⟩ := Z'.oO; exact ⟨_, e⟩
   by_cases c3 : T = i1
   .rw [c3]; exact Z'.a1.there.1
   by_cases c4 : T = i2
   .rw [c4]; exact Z'.a2.there.1
   exact ⟨_, k T _ ⟨c1, c2, c3, c4⟩ HP⟩
  obtain ⟨o, e⟩ := this
  exact wpAny_pure (hQ h' T T' o true Z' e hp hn k)
def kJ {f0 : Value} {Q : Option Value -> Shared -> Prop} (hh : A.handled = none) (Z : ZS s.heap z TI TO i1 i2 l1 l2 k xs ys f0 f1) (hf : (f0 = .none /\ f1 = .bool false) \/ ∃ T oT b, f0 = rawInt (T : Addr) /\ f1 = .bool b /\ s.heap.get? T = some oT) (rB : xs[k]? = none \/ ys[k]? = none)
  (hQ : ∀ h', (∀ c o, iY z TO i1 i2 c -> s.heap.get? c = some o -> h'.get? c = some o) -> Q none { s with heap := h' }) : wpAny (model prog w) A (pyNext (.ref z)) Q E s := by
 have hT : s.TypeIs (.ref z) "zip" := ⟨_, Z.oz, rfl⟩
 skip
 refine wpAny_bind (wpAny_attempt (wpAny_callSpecial?_slot (name := oS "__next__") hT PySem.F.slot_zip_next (wpAny_call_entry PySem.F.slot_zip_next hT PySem.F.entry_zip_next (xp hh Z hf rB fun h' e hk he => ?_) (PySem.F.args_zip_next_1 _))))
 obtain ⟨o, ho, hc⟩ := he
 refine wpAny_bind (wpAny_isInstance (T := "StopIteration") (b := true) ⟨o, ho, hc⟩ isSubtype_stop ?_)
 exact wpAny_pure (hQ _ hk)
end
end
section
def nD : typeLookup (.type "zip") "keys" = pure none := PySem.am_miss_of_fast (by tm_at "dk")
def l4 : typeLookup (.type "list") "keys" = pure none := PySem.am_miss_of_fast (by tm_at "dk")
def pP : entryFor table "zip.__getattribute__" = some Builtin.«object.__getattribute__» :=
 entryFor_alias (id' := "object.__getattribute__") (by rw [fastTable_eq_tree]; kernel_rfl) (by tm_at "dk") (by kernel_rfl) (by rw [fastTable_eq_tree]; kernel_rfl)
def j6 : typeLookup (.type "zip") "__getattr__" = pure none := by rw [typeLookup_type, builtinLookup_eq_fast]; kernel_rfl
def l5 (a : Addr) (xs : Array Value) (u : Tok) :
  Meets (Builtin.«object.__getattribute__» ⟨[.ref a, .str "keys" u], []⟩) (fun A R s => s.heap.get? a = some { cls := .type "zip", dict := none, data := .fields xs, slots := #[] } /\ raisesAttr (.ref a) "keys" A R s) :=
 Meets.of_wp fun prog w A R s hs => by
  obtain ⟨hp, g, d, tk, os⟩ := s
  obtain ⟨hx, hs⟩ := hs
  have hT : (⟨hp, g, d, tk, os⟩ : Shared).TypeIs (.ref a) "zip" := ⟨_, hx, rfl⟩
  have HQ := nD
  have Du : (["__module__", "__name__", "__qualname__", "__doc__", "__annotations__"] : List Str).contains "keys" = false := by decide +kernel
  unfold Builtin.«object.__getattribute__»
  repeat (any_goals (first | tm_at "ra" | tm_at "wp"))
  try simp only [Du, Bool.false_eq_true, if_false]
  repeat (any_goals (first | tm_at "ra" | tm_at "wp"))
  exact wpAny_raiseAttrError hs.1 hs.2 (attrMsg_fits (by tm_at "dk") (by size_fits))
section
variable {prog : Program} {w : PySem.World} {A : Around} {E : Value -> Shared -> Prop} {s : Shared}
def tq {a : Addr} {xs : Array Value} {Q : Option Value -> Shared -> Prop} (hx : s.heap.get? a = some { cls := .type "zip", dict := none, data := .fields xs, slots := #[] }) (hA : A.handled = none)
  (h : ∀ h' tk, (∀ b o, s.heap.get? b = some o -> h'.get? b = some o) -> Q none { s with heap := h', toks := tk }) : wpAny (model prog w) A (getAttr? (.ref a) "keys") Q E s := by
 obtain ⟨hp, g, d, tk, os⟩ := s
 have hT : ∀ wD, (⟨hp, g, d, wD, os⟩ : Shared).TypeIs (.ref a) "zip" := fun _ => ⟨_, hx, rfl⟩
 have f1 := sub_AttributeError
 have f3 := PySem.F.slot_zip_getattribute.lookup
 have f4 := PySem.F.slot_zip_getattribute.bind (.ref a)
 have f5 := j6
 unfold getAttr? getAttrBy? getAttrBy
 repeat (any_goals (first | tm_at "ra" | exact hT _ | (tm_at "gC"; refine call_meets PySem.F.slot_zip_getattribute (hT _) pP (PySem.F.args_zip_getattribute_2 _ _) (l5 a xs _) ⟨hx, hA, fun h' wD e xb => ?_⟩) | tm_at "wp"))
 obtain ⟨t', u', he⟩ := xb.there
 show wpAny _ _ (getattributeRaised _ _ _ _ _ _ _) _ _ _
 unfold getattributeRaised
 repeat (any_goals (first | tm_at "ra" | tm_at "wp"))
 exact h _ _ xb.of.keeps
def rC {a : Addr} {xs : Array Value} {k : Nat} {Q : Option Value -> Shared -> Prop} (hx : s.heap.get? a = some { cls := .type "list", dict := none, data := .seq xs k, slots := #[] }) (hA : A.handled = none)
  (h : ∀ h' tk, (∀ b o, s.heap.get? b = some o -> h'.get? b = some o) -> Q none { s with heap := h', toks := tk }) : wpAny (model prog w) A (getAttr? (.ref a) "keys") Q E s := by
 obtain ⟨hp, g, d, tk, os⟩ := s
 have hT : ∀ wD, (⟨hp, g, d, wD, os⟩ : Shared).TypeIs (.ref a) "list" := fun _ => ⟨_, hx, rfl⟩
 have f1 := sub_AttributeError
 have f3 := PySem.F.slot_list_getattribute.lookup
 have f4 := PySem.F.slot_list_getattribute.bind (.ref a)
 have f5 := am_list_getattr_none
 unfold getAttr? getAttrBy? getAttrBy
 repeat (any_goals (first | tm_at "ra" | exact hT _ | (tm_at "gC"; refine call_meets PySem.F.slot_list_getattribute (hT _) am_entry_list_getattribute (PySem.F.args_list_getattribute_2 _ _) (meets_getattribute_miss_list a xs k #[] "keys" _ l4 (by tm_at "dk") (by size_fits)) ⟨hx, hA, fun h' wD e xb => ?_⟩) | tm_at "wp"))
 obtain ⟨t', u', he⟩ := xb.there
 show wpAny _ _ (getattributeRaised _ _ _ _ _ _ _) _ _ _
 unfold getattributeRaised
 repeat (any_goals (first | tm_at "ra" | tm_at "wp"))
 exact h _ _ xb.of.keeps
def gk : entryFor table "dict.update.loop" = some Builtin.«dict.update.loop» := entryFor_of_tree (by kernel_rfl)
structure Src (prog : Program) (w : PySem.World) (d : Addr) (it : Value) (ps : List (Str × Tok × Value)) (wr : Addr -> Prop) (St : Nat -> Heap -> Prop) : Prop where
 next : ∀ {A : Around} {k key t v} {s : Shared} {P : Option Value -> Shared -> Prop} {X : Value -> Shared -> Prop}, ps[k]? = some (key, t, v) -> St k s.heap ->
  (∀ h' T n, St (k + 1) h' -> h'.get? T = some { cls := .type "tuple", data := .seq #[.str key t, v] n } -> (∀ c o, ¬ wr c -> s.heap.get? c = some o -> h'.get? c = some o) -> P (some (.ref T)) { s with heap := h' }) -> wpAny (model prog w) A (pyNext it) P X s
 done : ∀ {A : Around} {s : Shared} {P : Option Value -> Shared -> Prop} {X : Value -> Shared -> Prop}, A.handled = none -> St ps.length s.heap ->
  (∀ h', (∀ c o, ¬ wr c -> s.heap.get? c = some o -> h'.get? c = some o) -> P none { s with heap := h' }) -> wpAny (model prog w) A (pyNext it) P X s
 keep : ∀ {k h h'}, St k h -> (∀ c o, c ≠ d -> h.get? c = some o -> h'.get? c = some o) -> (∃ o, h'.get? d = some o) -> St k h'
def rD {d : Addr} {it : Value} {ps : List (Str × Tok × Value)} {wr : Addr -> Prop} {St : Nat -> Heap -> Prop} (S : Src prog w d it ps wr St) (hd : ¬ wr d) (hh : A.handled = none) {R : Result -> Shared -> Prop} :
  ∀ (rest : List (Str × Tok × Value)) (k : Nat) (i : Int) (t : Tok) (kvs : List (Str × Value)) (s : Shared), ps.drop k = rest -> k <= ps.length -> kvs.length + rest.length <= sizeLine -> St k s.heap -> s.heap.DictOf (PySem.strKind prog w) d kvs ->
   (∀ h' tk, h'.DictOf (PySem.strKind prog w) d (rest.foldl (fun a p => stored a p.1 p.2.2) kvs) -> (∀ c o, c ≠ d -> ¬ wr c -> s.heap.get? c = some o -> h'.get? c = some o) -> R (.ok (.ret .none)) { s with heap := h', toks := tk }) ->
   codeAny (model prog w) A (.builtin "dict.update.loop" ⟨[.ref d, it, .int i t, .none], []⟩) R s := by
 intro rest
 induction rest with
 | nil =>
  intro k i t kvs s u7 hk hz st hD hR
  refine codeAny_builtin gk ?_
  unfold Builtin.«dict.update.loop»
  have hlen : k = ps.length := Nat.le_antisymm hk (List.drop_eq_nil_iff.mp u7)
  subst hlen
  refine wpAny_bind (S.done hh st fun h' kk => ?_)
  show wpAny _ _ (Builtin.Dict.addKeywords d [] >>= _) _ _ _
  exact wpAny_bind (wpAny_pure (wpAny_pure (hR h' s.toks (hD.at fun o e => kk _ _ hd e) fun c o _ n e => kk c o n e)))
 | cons p rest ih =>
  obtain ⟨key, tk, v⟩ := p
  intro k i t kvs s u7 hk hz st hD hR
  obtain ⟨hx, hd2, C6⟩ := drop_cons u7
  refine codeAny_builtin gk ?_
  unfold Builtin.«dict.update.loop»
  refine wpAny_bind (S.next hx st fun h' T n sT hT kk => ?_)
  have JY : Heap.DictOf (PySem.strKind prog w) h' d kvs := hD.at fun o e => kk _ _ hd e
  refine wpAny_bind (wpAny_holding (wpAny_bind (wpAny_tryCatch ?_)))
  unfold Builtin.Dict.pairItems
  refine wpAny_bind (wpAny_typeOf (T := "tuple") ⟨_, hT, rfl⟩ ?_)
  rw [if_pos (by decide)]
  refine wpAny_bind (wpAny_seqItems hT rfl (wpAny_pure ?_))
  show wpAny _ _ (holding [.str key tk, v] (dictSet d (.str key tk) v)) _ _ _
  refine wpAny_holding (wpAny_dictSet_pairs (knd := PySem.strKind prog w) (strKind_is _ _ key tk) JY (fun h2 EA s2 => ?_) (by simp at hz; tm_at "o"))
  refine wpAny_pure ⟨Code.quiet_builtin _ (by tm_at "dk"), ?_⟩
  have HR : ∀ c o, c ≠ d -> h'.get? c = some o -> h2.get? c = some o := fun c o n e => s2.extBut _ _ n e
  refine ih (k + 1) _ _ _ _ hd2 C6 ?_ (S.keep sT HR (let ⟨o, _, _, e, _⟩ := EA; ⟨o, e⟩)) EA fun h3 Gr Gs k3 => hR h3 Gr Gs fun c o n n' e => k3 c o n n' (HR c o n (kk c o n' e))
  have := PySem.stored_length_le kvs key v
  simp at hz; tm_at "o"
end
end
section
def l6 (T N : String) : Prop := (T = "list" /\ N = "list_iterator") \/ (T = "tuple" /\ N = "tuple_iterator")
noncomputable abbrev EB (h : Heap) (N1 : String) (l1 : Addr) : Heap := h.push { cls := .type N1, data := .fields #[.ref l1, .int 0 0] }
noncomputable abbrev EC (h : Heap) (N1 N2 : String) (l1 l2 : Addr) : Heap := (EB h N1 l1).push { cls := .type N2, data := .fields #[.ref l2, .int 0 0] }
noncomputable abbrev ED (h : Heap) (N1 N2 : String) (l1 l2 : Addr) : Heap := (EC h N1 N2 l1 l2).push { cls := .type "tuple", data := .seq #[.ref h.objs.size, .ref (EB h N1 l1).objs.size] }
noncomputable abbrev EE (h : Heap) (N1 N2 : String) (l1 l2 : Addr) : Heap := (ED h N1 N2 l1 l2).push { cls := .type "tuple", data := .seq #[.none, .none] }
noncomputable abbrev CE (h : Heap) (N1 N2 : String) (l1 l2 : Addr) : Heap := (EE h N1 N2 l1 l2).push { cls := .type "zip", data := .fields #[.none, .bool false, .bool false, .ref (EC h N1 N2 l1 l2).objs.size, .ref (ED h N1 N2 l1 l2).objs.size] }
def l7 {prog : Program} {w : PySem.World} {A : Around} {E : Value -> Shared -> Prop} {s : Shared} {T N : String} (t : l6 T N) {l : Addr} {xs : Array Value} {n : Nat} {Q : Value -> Shared -> Prop} (e : s.heap.get? l = some { cls := .type T, data := .seq xs n })
  (hQ : Q (.ref s.heap.objs.size) { s with heap := s.heap.push { cls := .type N, data := .fields #[.ref l, .int 0 0] } }) : wpAny (model prog w) A (pyIter (.ref l)) Q E s := by
 rcases t with ⟨rfl, rfl⟩ | ⟨rfl, rfl⟩
 .exact wpAny_pyIter_list (items := xs) ⟨_, e, rfl, _, rfl⟩ hQ
 .exact wpAny_pyIter_tuple (items := xs) ⟨_, e, rfl, _, rfl⟩ hQ
def nE {T1 N1 T2 N2 : String} (t1 : l6 T1 N1) (t2 : l6 T2 N2) (l1 l2 : Addr) (xs ys : Array Value) (n1 n2 : Nat) :
  Meets (Builtin.«zip.__new__» ⟨[.type "zip", .ref l1, .ref l2], []⟩) (fun _ R s => s.heap.get? l1 = some { cls := .type T1, data := .seq xs n1 } /\ s.heap.get? l2 = some { cls := .type T2, data := .seq ys n2 } /\
   R (.ok (.ret (.ref (EE s.heap N1 N2 l1 l2).objs.size))) { s with heap := CE s.heap N1 N2 l1 l2 }) :=
 .of_wp fun prog w A R s h => by
  obtain ⟨hp, g, d, tk, os⟩ := s; obtain ⟨e1, e2, h⟩ := h
  have BF := sub_zip
  have JZ : (hp.push { cls := .type N1, data := .fields #[.ref l1, .int 0 0] }).get? l2 = some { cls := .type T2, data := .seq ys n2 } := Heap.get?_push_of_some _ e2
  (repeat (first | tm_at "gP"; refine l7 t1 e1 ?_ | tm_at "gP"; refine l7 t2 JZ ?_ | tm_at "wp"))
  exact ⟨_, rfl, h⟩
noncomputable abbrev rE (N : String) (l : Addr) : Obj := { cls := .type N, data := .fields #[.ref l, .int 0 0] }
def pQ {prog : Program} {w : PySem.World} {A : Around} {E : Value -> Shared -> Prop} {s : Shared} {T1 N1 T2 N2 : String} (t1 : l6 T1 N1) (t2 : l6 T2 N2) {l1 l2 : Addr} {xs ys : Array Value} {n1 n2 : Nat} {Q : Value -> Shared -> Prop}
  (e1 : s.heap.get? l1 = some { cls := .type T1, data := .seq xs n1 }) (e2 : s.heap.get? l2 = some { cls := .type T2, data := .seq ys n2 })
  (h : ∀ h', h'.get? (s.heap.objs.size + 4) = some (j5 .none (.bool false) (s.heap.objs.size + 2) (s.heap.objs.size + 3)) -> h'.get? (s.heap.objs.size + 2) = some { cls := .type "tuple", data := .seq #[.ref s.heap.objs.size, .ref (s.heap.objs.size + 1)] } ->
   h'.get? (s.heap.objs.size + 3) = some { cls := .type "tuple", data := .seq #[.none, .none] } -> h'.get? s.heap.objs.size = some (rE N1 l1) -> h'.get? (s.heap.objs.size + 1) = some (rE N2 l2) ->
   (∀ c o, s.heap.get? c = some o -> h'.get? c = some o) -> Q (.ref (s.heap.objs.size + 4)) { s with heap := h' }) :
  wpAny (model prog w) A (call (.type "zip") [.ref l1, .ref l2]) Q E s := by
 refine callType_new PySem.F.called_zip (by decide) (PySem.F.typeCall_zip_2 _ _) (PySem.F.newCall_zip_2 _ _) (fun obj => PySem.F.args_object_init_3 obj _ _) PySem.F.entry_zip_new
  (nE t1 t2 l1 l2 xs ys n1 n2) ⟨e1, e2, ?_⟩
 have z1 : (EB s.heap N1 l1).objs.size = s.heap.objs.size + 1 := Heap.size_push ..
 have z2 : (EC s.heap N1 N2 l1 l2).objs.size = s.heap.objs.size + 2 := by rw [Heap.size_push, z1]
 have z3 : (ED s.heap N1 N2 l1 l2).objs.size = s.heap.objs.size + 3 := by rw [Heap.size_push, z2]
 have z4 : (EE s.heap N1 N2 l1 l2).objs.size = s.heap.objs.size + 4 := by rw [Heap.size_push, z3]
 have g5 : (CE s.heap N1 N2 l1 l2).get? (EE s.heap N1 N2 l1 l2).objs.size = some _ := Heap.get?_push_size _ rfl
 have g4 : (CE s.heap N1 N2 l1 l2).get? (ED s.heap N1 N2 l1 l2).objs.size = some _ := Heap.get?_push_of_some _ (Heap.get?_push_size _ rfl)
 have g3 : (CE s.heap N1 N2 l1 l2).get? (EC s.heap N1 N2 l1 l2).objs.size = some _ := Heap.get?_push_of_some _ (Heap.get?_push_of_some _ (Heap.get?_push_size _ rfl))
 have g2 : (CE s.heap N1 N2 l1 l2).get? (EB s.heap N1 l1).objs.size = some _ := Heap.get?_push_of_some _ (Heap.get?_push_of_some _ (Heap.get?_push_of_some _ (Heap.get?_push_size _ rfl)))
 have g1 : (CE s.heap N1 N2 l1 l2).get? s.heap.objs.size = some _ := Heap.get?_push_of_some _ (Heap.get?_push_of_some _ (Heap.get?_push_of_some _ (Heap.get?_push_of_some _ (Heap.get?_push_size _ rfl))))
 show _ /\ _
 rw [z2, z3, z4] at g5
 rw [z1, z2] at g3
 rw [z3] at g4
 rw [z1] at g2
 rw [z4]
 exact ⟨⟨_, g5, rfl⟩, h _ g5 g3 g4 g1 g2 fun c o x =>
  Heap.get?_push_of_some _ (Heap.get?_push_of_some _ (Heap.get?_push_of_some _ (Heap.get?_push_of_some _ (Heap.get?_push_of_some _ x))))⟩
def ju.zero {h : Heap} {T N : String} (t : l6 T N) {i l : Addr} {vs : List Value} {n : Nat} (e1 : h.get? i = some (rE N l)) (e2 : h.get? l = some { cls := .type T, data := .seq vs.toArray n }) : ju h i l 0 vs := by
 rcases t with ⟨rfl, rfl⟩ | ⟨rfl, rfl⟩
 .exact .inl ⟨⟨_, e1, rfl, rfl⟩, ⟨_, e2, rfl, _, rfl⟩⟩
 .exact .inr ⟨⟨_, e1, rfl, rfl⟩, ⟨_, e2, rfl, _, rfl⟩⟩
inductive Dv (z l1 l2 : Addr) (T1 T2 : String) (xs ys : List AV) (V : Addr -> Prop) (h : Heap) (v : Value) : Prop
 | mk (e : v = .ref z) (vs us : List Value) (n m : Nat) (e1 : h.get? l1 = some { cls := .type T1, data := .seq vs.toArray n }) (n1 : ¬ V l1) (r1 : ah V h vs xs) (e2 : h.get? l2 = some { cls := .type T2, data := .seq us.toArray m }) (n2 : ¬ V l2) (r2 : ah V h us ys)
noncomputable def Dw (z l1 l2 : Addr) (T1 T2 : String) (xs ys : List AV) : AV := .dS {
 P := Dv z l1 l2 T1 T2 xs ys
 ref := fun V h v q => (by cases q with | mk e => exact ⟨z, e⟩)
 keep := fun V V' h h' v k zz => (by refine gF fun Z => ?_; obtain ⟨e, vs, us, n, m, e1, n1, r1, e2, n2, r2⟩ := zz; exact Z (⟨e, vs, us, n, m, (k _ _ e1 n1).1, (k _ _ e1 n1).2, r1.keep k, (k _ _ e2 n2).1, (k _ _ e2 n2).2, r2.keep k⟩))}
noncomputable abbrev gT (N1 N2 : String) (TI TO i1 i2 l1 l2 : Addr) : List Obj := [j5 .none (.bool false) TI TO, { cls := .type "tuple", data := .seq #[.ref i1, .ref i2] }, { cls := .type "tuple", data := .seq #[.none, .none] }, rE N1 l1, rE N2 l2]
def xq (xs ys : List AV) (Γ : aa) (v : AV) (ae : aa) : Prop :=
 ∃ (T1 N1 T2 N2 : String) (z TI TO i1 i2 l1 l2 : Addr), l6 T1 N1 /\ l6 T2 N2 /\ v = Dw z l1 l2 T1 T2 xs ys /\ ae = aY [z, TI, TO, i1, i2] (gT N1 N2 TI TO i1 i2 l1 l2) ++ Γ
section
variable {env : Env} {pos : Pos} {Γ ag ai R : aa} {s s' : Shared} {n : Nat} {Q : AV -> aa -> Prop} {a L : Addr}
def aM.adds {wr : List Addr} {os : List Obj} (S : aM G Γ s) (hl : os.length = wr.length) (nd : wr.Nodup) (hf : ∀ b ∈ wr, s.heap.get? b = none) (ho : ∀ p ∈ aY wr os, ∃ o, p.2 = .obj o /\ s'.heap.get? p.1 = some o)
  (hk : ∀ b o, s.heap.get? b = some o -> s'.heap.get? b = some o) (hg : s'.gens = s.gens) (eK : s'.os = s.os) : aM G (aY wr os ++ Γ) s' /\ Step G Γ s.heap (aY wr os ++ Γ) s'.heap := by
 have dW : keys (aY wr os ++ Γ) = wr ++ keys Γ := by
  unfold keys; rw [List.map_append]
  have a := cw hl
  unfold keys at a; rw [a]
 have nk : ∀ b ∈ wr, b ∉ keys Γ := fun b hb q => S.fresh (hf b hb) (.inr q)
 refine S.go (fun b => b ∈ wr) (fun b hb => .inr (hf b hb)) (fun b o e _ => hk b o e) (fun p hp => ?_) (fun _ p hp hC => ?_) ?_ hg eK
 .rcases List.mem_append.mp hp with hp | hp
  .exact .inr (by have := List.mem_map_of_mem (f := Prod.fst) hp; have a := cw hl; unfold keys at a; rw [a] at this; exact this)
  .exact .inl hp
 .rcases List.mem_append.mp hp with hp | hp
  .k_dflt obtain ⟨o, e1, e2⟩ := ho p hp
   rw [e1]; exact e2
  .exact absurd (List.mem_map_of_mem (f := Prod.fst) hp) (nk _ hC)
 .rw [dW]
  refine List.nodup_append.mpr ⟨nd, S.nodup, fun b hb c hc e => nk b hb (e ▸ hc)⟩
def uu {T : String} (h : T = "list" \/ T = "tuple") : ∃ N, l6 T N := h.elim (fun e => ⟨_, .inl ⟨e, rfl⟩⟩) fun e => ⟨_, .inr ⟨e, rfl⟩⟩
theorem WC.zip {x y : AV} {xs ys : List AV} (hx : cZ x = some xs) (hy : cZ y = some ys) (q : ∀ v ae, xq xs ys Γ v ae -> Q v ae) : WC G A X (.type "zip") [x, y] Γ Q := .mk fun s vs S r => by
 apply ah.iM r; intro v u r1 r2
 k_dflt obtain ⟨l1, us, n1, T1, rfl, J0, e1, yL, J1⟩ := jn hx r1
 k_dflt obtain ⟨l2, ws, n2, T2, rfl, HS, e2, yM, HT⟩ := jn hy r2
 obtain ⟨N1, t1⟩ := uu J0
 obtain ⟨N2, t2⟩ := uu HS
 refine pQ t1 t2 e1 e2 fun h' a1 a2 a3 a4 a5 k => ?_
 have fr : ∀ j, s.heap.get? (s.heap.objs.size + j) = none := fun j => Heap.get?_none_of_le (Nat.le_add_right _ _)
 have z := S.adds (s' := { s with heap := h' }) (wr := [s.heap.objs.size + 4, s.heap.objs.size + 2, s.heap.objs.size + 3, s.heap.objs.size, s.heap.objs.size + 1]) (os := gT N1 N2 (s.heap.objs.size + 2) (s.heap.objs.size + 3) s.heap.objs.size (s.heap.objs.size + 1) l1 l2) rfl
  (by
   have h : ∀ m : Nat, List.Nodup [m + 4, m + 2, m + 3, m, m + 1] := fun m => by simp
   exact h s.heap.objs.size)
  (fun b hb => by
   rcases List.mem_cons.mp hb with rfl | hb; exact fr 4
   rcases List.mem_cons.mp hb with rfl | hb; exact fr 2
   rcases List.mem_cons.mp hb with rfl | hb; exact fr 3
   rcases List.mem_cons.mp hb with rfl | hb; exact fr 0
   rcases List.mem_cons.mp hb with rfl | hb; exact fr 1
   cases hb)
  (fun p hp => by
   rcases List.mem_cons.mp hp with rfl | hp; exact ⟨_, rfl, a1⟩
   rcases List.mem_cons.mp hp with rfl | hp; exact ⟨_, rfl, a2⟩
   rcases List.mem_cons.mp hp with rfl | hp; exact ⟨_, rfl, a3⟩
   rcases List.mem_cons.mp hp with rfl | hp; exact ⟨_, rfl, a4⟩
   rcases List.mem_cons.mp hp with rfl | hp; exact ⟨_, rfl, a5⟩
   cases hp) k rfl rfl
 have kk := z.2.az
 exact .here (show Rep _ _ _ (Dw (s.heap.objs.size + 4) l1 l2 T1 T2 xs ys) from .dS ⟨rfl, us, ws, n1, n2, (kk _ _ e1 yL).1, (kk _ _ e1 yL).2, J1.keep kk, (kk _ _ e2 yM).1, (kk _ _ e2 yM).2, HT.keep kk⟩) z.1 z.2
  (q _ _ ⟨T1, N1, T2, N2, _, _, _, _, _, l1, l2, t1, t2, rfl, rfl⟩)
end
end
section
def gm {prog : Program} {w : PySem.World} {A : Around} {E : Value -> Shared -> Prop} {s : Shared} {v : Addr} {T : String} {ps : List (Str × Tok × Value)} {W : Addr -> Prop} {Q : Value -> Shared -> Prop} (hA : A.handled = none) (hT : s.TypeIs (.ref v) T) (iG : (Value.type T != .type "dict") = true) (hz : ps.length <= sizeLine)
  (dW : ∀ (A' : Around) (E' : Value -> Shared -> Prop) (Q' : Option Value -> Shared -> Prop) (s1 : Shared), A'.handled = none -> (∀ b o, s.heap.get? b = some o -> s1.heap.get? b = some o) ->
   (∀ h' tk, (∀ b o, s1.heap.get? b = some o -> h'.get? b = some o) -> Q' none { s1 with heap := h', toks := tk }) -> wpAny (model prog w) A' (getAttr? (.ref v) "keys") Q' E' s1)
  (Dx : ∀ (A' : Around) (E' : Value -> Shared -> Prop) (Q' : Value -> Shared -> Prop) (s1 : Shared), (∀ b o, s.heap.get? b = some o -> s1.heap.get? b = some o) -> (∃ o, s1.heap.get? s.heap.objs.size = some o) ->
   (∀ h' it wr St, Src prog w s.heap.objs.size it ps wr St -> St 0 h' -> ¬ wr s.heap.objs.size -> (∀ c o, s1.heap.get? c = some o -> h'.get? c = some o) -> (∀ c o, s.heap.get? c = some o -> wr c -> W c) -> Q' it { s1 with heap := h' }) -> wpAny (model prog w) A' (pyIter (.ref v)) Q' E' s1)
  (h : ∀ h' tk, h'.DictOf (PySem.strKind prog w) s.heap.objs.size (ps.foldl (fun a p => stored a p.1 p.2.2) []) -> (∀ c o, ¬ W c -> s.heap.get? c = some o -> h'.get? c = some o) -> Q (.ref s.heap.objs.size) { s with heap := h', toks := tk }) :
  wpAny (model prog w) A (call (.type "dict") [.ref v]) Q E s := by
 refine callType_codes (Q₁ := fun obj ay => obj = .ref s.heap.objs.size /\ ay = { s with heap := s.heap.push { cls := .type "dict", data := .dict #[] } }) PySem.F.kt_called_dict (PySem.F.kt_typeCall_dict_1 _) PySem.F.entry_dict_init (PySem.kt_code_dict_new _ ⟨rfl, rfl⟩) ?_
 rintro obj ay ⟨rfl, rfl⟩
 have BG : (s.heap.push { cls := .type "dict", data := .dict #[] }).DictOf (PySem.strKind prog w) s.heap.objs.size [] := Heap.DictOf.new s.heap
 have kk : ∀ b o, s.heap.get? b = some o -> (s.heap.push { cls := .type "dict", data := .dict #[] }).get? b = some o := fun b o e => Heap.get?_push_of_some _ e
 k_dflt obtain ⟨ov, J2, J3⟩ := hT
 refine ⟨BG.typeIs, PySem.F.args_dict_init_2 _ _, ?_⟩
 unfold Builtin.«dict.__init__»
 refine wpAny_bind ?_
 unfold Builtin.Dict.selfAndRest
 refine wpAny_bind (wpAny_notOrdered_dict BG.typeIs ?_)
 skip
 refine wpAny_pure ?_
 show wpAny _ _ (Builtin.Dict.updateFrom "dict.__init__" s.heap.objs.size (.ref v) [] .none) _ _ _
 skip
 refine wpAny_bind (wpAny_typeOf (T := T) ⟨ov, kk _ _ J2, J3⟩ ?_)
 refine (if_pos iG) ▸ ?_
 refine wpAny_bind (dW _ _ _ _ hA kk fun h1 J4 k1 => ?_)
 skip
 refine wpAny_bind (wpAny_rule ?_)
 have HU : Heap.DictOf (PySem.strKind prog w) h1 s.heap.objs.size [] := BG.at fun o e => k1 _ o e
 refine wpAny_bind (Dx _ _ _ _ (fun b o e => k1 b o (kk b o e)) ((by refine gF fun Z => ?_; obtain ⟨o, _, _, e, _⟩ := HU; exact Z (⟨o, e⟩))) fun h2 it wr St hS st nd k2 kW => ?_)
 refine wpAny_pure ⟨Code.quiet_builtin _ (by tm_at "dk"), ?_⟩
 have EA : Heap.DictOf (PySem.strKind prog w) h2 s.heap.objs.size [] := HU.at fun o e => k2 _ o e
 refine rD (A := A.in1) hS nd hA ps 0 0 0 [] { s with heap := h2, toks := J4 } rfl (Nat.zero_le _) (by simpa using hz) st EA fun h3 Gr Gs k3 => ?_
 refine ⟨rfl, h h3 Gr Gs fun c o nW e => k3 c o (fun q => ?_) (fun q => nW (kW c o e q)) (k2 _ _ (k1 _ _ (kk _ _ e)))⟩
 have := Heap.lt_size e
 rw [q] at this; exact Nat.lt_irrefl _ this
noncomputable def putAll (es : List (Str × AV)) (ps : List (Str × AV)) : List (Str × AV) := ps.foldl (fun a p => bN a p.1 p.2) es
def rF {V : Addr -> Prop} {h : Heap} : ∀ (ps : List (Str × Tok × Value)) (ys : List (Str × AV)) (kvs : List (Str × Value)) (es : List (Str × AV)), kvs.map (·.1) = es.map (·.1) -> ah V h (kvs.map (·.2)) (es.map (·.2)) -> (es.map (·.1)).Nodup ->
  ps.map (·.1) = ys.map (·.1) -> ah V h (ps.map (·.2.2)) (ys.map (·.2)) ->
  (ps.foldl (fun a p => stored a p.1 p.2.2) kvs).map (·.1) = (putAll es ys).map (·.1) /\ ah V h ((ps.foldl (fun a p => stored a p.1 p.2.2) kvs).map (·.2)) ((putAll es ys).map (·.2)) := by
 intro ps; induction ps with
 | nil =>
  intro ys kvs es e r nd e1 _
  cases List.map_eq_nil_iff.mp e1.symm
  exact ⟨e, r⟩
 | cons p ps ih =>
  intro ys kvs es e r nd e1 r1
  obtain ⟨k, t, v⟩ := p
  cases ys with
  | nil => contradiction
  | cons p ys =>
  obtain ⟨k', y⟩ := p
  obtain rfl := (List.cons.inj e1).1
  replace e1 := (List.cons.inj e1).2
  refine gF fun Z => ?_
  cases r1.inv with
  | cons rv rs =>
   refine Z ?_; clear Z
   have hk : kvs = (es.map (·.1)).zip (kvs.map (·.2)) := by
    rw [<- e]
    clear r e
    induction kvs with
    | nil => rfl
    | cons p l ih => simp [<- ih]
   have z := lT (k := k) rv nd r
   rw [<- hk] at z
   exact ih ys (stored kvs k v) (bN es k y) z.1 z.2 (fP nd) e1 rs
section
variable {env : Env} {pos : Pos} {Γ ag ai ae R : aa} {s s' : Shared} {n : Nat} {Q : AV -> aa -> Prop} {a L : Addr}
def oa {kvs : List (Str × Value)} {es : List (Str × AV)} {d : Addr} (S : aM G Γ s) (hd : ¬ bc G Γ d) (Cv : (d == sysModules) = false) (h : s.heap.DictOf (strKind G.prog G.w) d kvs) (hk : kvs.map (·.1) = es.map (·.1)) (hv : ah (bc G Γ) s.heap (kvs.map (·.2)) (es.map (·.2))) :
  Rep (bc G Γ) s.heap (.ref d) (ar G.w.params es) := by
 k_dflt obtain ⟨bZ, k, e, sk, Gu, nd⟩ := ig h
 exact .dS ⟨d, bZ, k, rfl, Cv, e, hd, hk ▸ sk, Gu ▸ hv, hk ▸ nd⟩
def ZS.HV {T1 N1 T2 N2 : String} (t1 : l6 T1 N1) (t2 : l6 T2 N2) {h : Heap} {z TI TO i1 i2 l1 l2 : Addr} {vs us : List Value} {n m : Nat} (ap : ZipApart z TI TO i1 i2 l1 l2)
  (ho : ∀ p ∈ aY [z, TI, TO, i1, i2] (gT N1 N2 TI TO i1 i2 l1 l2), ∃ o, p.2 = .obj o /\ h.get? p.1 = some o) (e1 : h.get? l1 = some { cls := .type T1, data := .seq vs.toArray n }) (e2 : h.get? l2 = some { cls := .type T2, data := .seq us.toArray m }) :
  ZS h z TI TO i1 i2 l1 l2 0 vs us .none (.bool false) := by
 have g : ∀ b o, (b, bG.obj o) ∈ aY [z, TI, TO, i1, i2] (gT N1 N2 TI TO i1 i2 l1 l2) -> h.get? b = some o := fun b o hb => by
  obtain ⟨o', q, e⟩ := ho _ hb
  cases q; exact e
 exact ⟨ap, g _ _ (.head _), g _ _ (.tail _ (.head _)), ⟨_, _, g _ _ (.tail _ (.tail _ (.head _)))⟩, .zero t1 (g _ _ (.tail _ (.tail _ (.tail _ (.head _))))) e1, .zero t2 (g _ _ (.tail _ (.tail _ (.tail _ (.tail _ (.head _)))))) e2⟩
def og {T1 N1 T2 N2 : String} {z TI TO i1 i2 l1 l2 : Addr} (S : aM G (aY [z, TI, TO, i1, i2] (gT N1 N2 TI TO i1 i2 l1 l2) ++ Γ) s)
  (n1 : ¬ bc G (aY [z, TI, TO, i1, i2] (gT N1 N2 TI TO i1 i2 l1 l2) ++ Γ) l1) (n2 : ¬ bc G (aY [z, TI, TO, i1, i2] (gT N1 N2 TI TO i1 i2 l1 l2) ++ Γ) l2) : ZipApart z TI TO i1 i2 l1 l2 := by
 have nd : (z :: TI :: TO :: i1 :: i2 :: keys Γ).Nodup := S.nodup
 simp only [List.nodup_cons, List.mem_cons, not_or] at nd
 k_dflt obtain ⟨⟨a1, a2, a3, a4, _⟩, ⟨b1, b2, b3, _⟩, ⟨c1, c2, _⟩, ⟨d1, _⟩, _, _⟩ := nd
 have hz : ∀ l, ¬ bc G (aY [z, TI, TO, i1, i2] (gT N1 N2 TI TO i1 i2 l1 l2) ++ Γ) l -> l ≠ z /\ l ≠ TO /\ l ≠ i1 /\ l ≠ i2 := fun l n =>
  ⟨fun e => n (e ▸ .inr (.head _)), fun e => n (e ▸ .inr (.tail _ (.tail _ (.head _)))), fun e => n (e ▸ .inr (.tail _ (.tail _ (.tail _ (.head _))))), fun e => n (e ▸ .inr (.tail _ (.tail _ (.tail _ (.tail _ (.head _))))))⟩
 obtain ⟨p1, p2, p3, p4⟩ := hz _ n1
 obtain ⟨q1, q2, q3, q4⟩ := hz _ n2
 exact ⟨fun e => a1 e.symm, fun e => a2 e.symm, fun e => a3 e.symm, fun e => a4 e.symm, b1, b2, b3, c1, c2, d1, p1, p2, p3, p4, q1, q2, q3, q4⟩
theorem ZS.keep {h h' : Heap} {z TI TO i1 i2 l1 l2 : Addr} {k : Nat} {vs us : List Value} {f0 f1 : Value} (Z : ZS h z TI TO i1 i2 l1 l2 k vs us f0 f1) {d : Addr} (hd : d ≠ z /\ d ≠ TI /\ d ≠ TO /\ d ≠ i1 /\ d ≠ i2 /\ d ≠ l1 /\ d ≠ l2)
  (kk : ∀ c o, c ≠ d -> h.get? c = some o -> h'.get? c = some o) : ZS h' z TI TO i1 i2 l1 l2 k vs us f0 f1 := by
 k_dflt obtain ⟨d1, d2, d3, d4, d5, d6, d7⟩ := hd
 exact ⟨Z.ap, kk _ _ (Ne.symm d1) Z.oz, kk _ _ (Ne.symm d2) Z.oI, (by obtain ⟨a, b, e⟩ := Z.oO; exact ⟨a, b, kk _ _ (Ne.symm d3) e⟩), Z.a1.keep (fun o e => kk _ o (Ne.symm d4) e) (fun o e => kk _ o (Ne.symm d6) e), Z.a2.keep (fun o e => kk _ o (Ne.symm d5) e) (fun o e => kk _ o (Ne.symm d7) e)⟩
def zx {V : Addr -> Prop} {h : Heap} : ∀ (l : List (Str × Tok)) (us : List Value) (ts : List Str) (ys : List AV), l.length = ts.length -> ah V h us ys -> ah V h ((List.zipWith (fun (a : Str × Tok) (b : Value) => (a.1, a.2, b)) l us).map (·.2.2)) ((ts.zip ys).map (·.2)) := by
 intro l; induction l with
 | nil =>
  intro us ts ys e r
  cases List.eq_nil_of_length_eq_zero e.symm
  exact .nil
 | cons a l ih =>
  intro us ts ys e r
  cases ts with
  | nil => contradiction
  | cons t ts =>
  cases r with
  | nil => exact .nil
  | cons rv rs => exact .cons rv (ih _ ts _ (Nat.succ.inj e) rs)
def WC.jv {xs ys : List AV} {ts : List Str} {v : AV} (hR : aj A n) (hz : xq xs ys Γ v ae) (ht : strsOf xs = some ts) (hl : xs.length <= sizeLine) (q : Q (ar G.w.params (putAll [] (ts.zip ys))) Γ) : WC G A X (.type "dict") [v] ae Q := .mk fun s vv S r => by
 k_dflt obtain ⟨T1, N1, T2, N2, z, TI, TO, i1, i2, l1, l2, t1, t2, rfl, rfl⟩ := hz
 apply ah.gQ r; intro v r1
 have ri := r1.inv; clear r1; induction ri with
 | dS q1 =>
  k_dflt obtain ⟨rfl, vs, us, n1, n2, e1, yL, r1, e2, yM, r2⟩ := q1
  k_dflt obtain ⟨l, rfl, jc⟩ := n6 ht r1
  have zy : ∀ p ∈ aY [z, TI, TO, i1, i2] (gT N1 N2 TI TO i1 i2 l1 l2), ∃ o, p.2 = .obj o /\ s.heap.get? p.1 = some o := fun p hp => by
   have := S.own p (List.mem_append_left _ hp)
   rcases List.mem_cons.mp hp with rfl | hp; exact ⟨_, rfl, this⟩
   rcases List.mem_cons.mp hp with rfl | hp; exact ⟨_, rfl, this⟩
   rcases List.mem_cons.mp hp with rfl | hp; exact ⟨_, rfl, this⟩
   rcases List.mem_cons.mp hp with rfl | hp; exact ⟨_, rfl, this⟩
   rcases List.mem_cons.mp hp with rfl | hp; exact ⟨_, rfl, this⟩
   k_dflt cases hp
  have ap := og (T1 := T1) (T2 := T2) S yL yM
  have Z := ZS.HV t1 t2 ap zy e1 e2
  have Gv := Z.oz
  have Eu : l.length = xs.length := by have := r1.length; simpa [strValues] using this
  have Bf : (List.zipWith (fun (a : Str × Tok) (b : Value) => (a.1, a.2, b)) l us).map (·.1) = (ts.zip ys).map (·.1) := by
   refine jc ▸ ?_
   have := r2.length
   clear r1 r2 ht jc Eu q Z e1 e2 S zy yL yM r
   induction l generalizing us ys with
   | nil => rfl
   | cons a l ih =>
    cases us with
    | nil => induction ys with
     | nil => rfl
     | cons _ _ => contradiction
    | cons u us => induction ys with
     | nil => contradiction
     | cons y ys => simpa using ih (us := us) (ys := ys) (by simpa using this)
  refine gm (T := "zip") (ps := List.zipWith (fun (a : Str × Tok) (b : Value) => (a.1, a.2, b)) l us) (W := fun c => c = z \/ c = TO \/ c = i1 \/ c = i2) hR.handled ⟨_, Gv, rfl⟩ (by decide) ?_ ?_ ?_ ?_
  .rw [List.length_zipWith]; exact Nat.le_trans (Nat.min_le_left _ _) (Eu ▸ hl)
  .intro A' E' Q' s1 Gw kk hQ
   exact tq (kk _ _ Gv) Gw hQ
  .intro A' E' Q' s1 kk ⟨od, Gx⟩ hQ
   have dn : ∀ c o, s.heap.get? c = some o -> s.heap.objs.size ≠ c := fun c o e => Nat.ne_of_gt (Heap.lt_size e)
   have yN : s.heap.objs.size ≠ z /\ s.heap.objs.size ≠ TI /\ s.heap.objs.size ≠ TO /\ s.heap.objs.size ≠ i1 /\ s.heap.objs.size ≠ i2 /\ s.heap.objs.size ≠ l1 /\ s.heap.objs.size ≠ l2 := by
    obtain ⟨a, b, e⟩ := Z.oO
    obtain ⟨⟨_, J5⟩, _⟩ := Z.a1.there
    obtain ⟨⟨_, J6⟩, _⟩ := Z.a2.there
    exact ⟨dn _ _ Gv, dn _ _ Z.oI, dn _ _ e, dn _ _ J5, dn _ _ J6, dn _ _ e1, dn _ _ e2⟩
   have Z1 : ZS s1.heap z TI TO i1 i2 l1 l2 0 (strValues l) us .none (.bool false) := Z.keep yN fun c o _ e => kk c o e
   refine wpAny_pyIter_zip (s := s1) Z1.oz ?_
   refine hQ s1.heap (.ref z) (fun c => c = z \/ c = TO \/ c = i1 \/ c = i2)
    (fun k h => (∃ f0 f1, ZS h z TI TO i1 i2 l1 l2 k (strValues l) us f0 f1 /\ ((f0 = .none /\ f1 = .bool false) \/ ∃ T oT b, f0 = rawInt (T : Addr) /\ f1 = .bool b /\ h.get? T = some oT)) /\ ∃ o, h.get? s.heap.objs.size = some o) ?_ ⟨⟨_, _, Z1, .inl ⟨rfl, rfl⟩⟩, _, Gx⟩
    (fun q => by rcases q with q | q | q | q; exact yN.1 q; exact yN.2.2.1 q; exact yN.2.2.2.1 q; exact yN.2.2.2.2.1 q) (fun c o e => e) (fun c o e q => q)
   have Gy : ∀ c, ¬ (c = z \/ c = TO \/ c = i1 \/ c = i2) -> iY z TO i1 i2 c := fun c n => ⟨fun q => n (.inl q), fun q => n (.inr (.inl q)), fun q => n (.inr (.inr (.inl q))), fun q => n (.inr (.inr (.inr q)))⟩
   have Gz : ¬ (s.heap.objs.size = z \/ s.heap.objs.size = TO \/ s.heap.objs.size = i1 \/ s.heap.objs.size = i2) := fun q => by rcases q with q | q | q | q; exact yN.1 q; exact yN.2.2.1 q; exact yN.2.2.2.1 q; exact yN.2.2.2.2.1 q
   refine ⟨fun {A2 k key t v s2 P2 X2} hx ⟨⟨f0, f1, Zk, hf⟩, o2, GA⟩ BH => ?_, fun {A2 s2 P2 X2} hh ⟨⟨f0, f1, Zk, hf⟩, o2, GA⟩ BH => ?_, fun {k h h'} ⟨⟨f0, f1, Zk, hf⟩, o2, GA⟩ k2 ed => ?_⟩
   .k_dflt obtain ⟨a, b, ha, hb, J7⟩ := List.getElem?_zipWith_eq_some.mp hx
    k_dflt cases J7
    refine pO Zk hf (x := .str a.1 a.2) (y := v) (by simp [strValues, ha]) hb fun h' T T' oT b' Z' hT hP hn k2 => ?_
    exact BH h' T' 0 ⟨⟨_, _, Z', .inr ⟨T, oT, b', rfl, rfl, hT⟩⟩, o2, k2 _ _ (Gy _ Gz) GA⟩ hP fun c o nw e => k2 c o (Gy c nw) e
   .refine kJ hh Zk hf ?_ fun h' k2 => BH h' fun c o nw e => k2 c o (Gy c nw) e
    refine List.length_zipWith ▸ ?_
    rcases Nat.le_total l.length us.length with h | h
    .rw [Nat.min_eq_left h]; exact .inl (by simp [strValues])
    .rw [Nat.min_eq_right h]; exact .inr (by simp)
   .refine ⟨⟨f0, f1, Zk.keep yN k2, hf.imp_right fun zz => ?_⟩, ed⟩
    k_dflt obtain ⟨T, oT, b, h1, h2, h3⟩ := zz
    by_cases c : T = s.heap.objs.size
    .obtain ⟨o, e⟩ := ed
     exact ⟨T, o, b, h1, h2, c ▸ e⟩
    .exact ⟨T, oT, b, h1, h2, k2 _ _ c h3⟩
  .intro h' tk hD kk
   have z2 := S.wF (s' := { s with heap := h', toks := tk }) rfl (fun b o nb e => kk b o (fun q => nb (by rcases q with q | q | q | q <;> simp [q])) e) rfl rfl
   have kp := z2.2.az
   have ff := rF (List.zipWith (fun (a : Str × Tok) (b : Value) => (a.1, a.2, b)) l us) (ts.zip ys) [] [] rfl .nil .nil Bf (V := bc G Γ) (h := h') (zx l us ts ys (by rw [<- jc, List.length_map]) (r2.keep kp))
   have vd := bK s.heap
   exact .here (oa z2.1 (fun q => by
    rcases q with q | q
    .exact S.fresh vd (.inl q)
    .exact S.fresh vd (.inr (List.mem_map.mpr (by obtain ⟨p, hp, e⟩ := List.mem_map.mp q; exact ⟨p, List.mem_append_right _ hp, e⟩)))) (fM S) hD ff.1 ff.2) z2.1 z2.2 q
end
end
section
set_option backward.match.sparseCases false
noncomputable def Dy (qual : Str) (pos : Pos) : CQ where
 P := fun V h vs => vs = #[] \/ ∃ c' oc us t, vs = #[rawInt pos.line, rawInt pos.col, .ref c'] /\ h.get? c' = some oc /\ ¬ V c' /\ oc.data = .fields us /\ us[1]? = some (.str qual t)
 keep := fun V V' h h' vs k q => q.imp id fun zz => (by refine gF fun Z => ?_; obtain ⟨c', oc, us, t, e, e1, n1, e2, e3⟩ := zz; exact Z (⟨c', oc, us, t, e, (k _ _ e1 n1).1, (k _ _ e1 n1).2, e2, e3⟩))
structure lA (G : Base) (c P : Addr) (qual : Str) (pos : Pos) : Prop where
 ts : G.ts = [P]
 hd : CodeHd G.h c P
 tP : G.tP = Dy qual pos
 bm : G.h.BuiltinsAt G.mg P
 st : P ≠ cStatics
inductive FnAt (name qual : Str) (params : Arguments) (body : List Stmt) (scope : Scope) (l8 : List (Str × Addr)) (V : Addr -> Prop) (h : Heap) (a : Addr) : Prop
 | mk (doc pm : Value) (c' : Addr) (vp : Value) (oc : Obj) (us : Array Value) (t : Tok) (e : h.get? a = some (fnMade name qual params body scope l8 doc pm c' vp)) (e1 : h.get? c' = some oc) (n1 : ¬ V c') (e2 : oc.data = .fields us) (e3 : us[1]? = some (.str qual t))
noncomputable def yO (name qual : Str) (params : Arguments) (body : List Stmt) (scope : Scope) (l8 : List (Str × Addr)) : bG := .dS {
 P := fun _ => FnAt name qual params body scope l8
 there := fun W V h a zz => (by refine gF fun Z => ?_; obtain ⟨_, _, _, _, _, _, _, e, _⟩ := zz; exact Z (⟨_, e⟩))
 keep := fun W V V' h h' a k ka zz => (by refine gF fun Z => ?_; obtain ⟨doc, pm, c', vp, oc, us, t, e, e1, n1, e2, e3⟩ := zz; exact Z (⟨doc, pm, c', vp, oc, us, t, ka _ e, (k _ _ e1 n1).1, (k _ _ e1 n1).2, e2, e3⟩))}
section
variable {env : Env} {pos : Pos} {names : List (Str × NameKind)} {cl cN : List (Str × Addr)} {Γ ag R : aa} {s s' : Shared} {c P : Addr} {qual : Str} {L : Addr}
def CodeHd.congr {h h' : Heap} (k : h'.get? c = h.get? c) (C : CodeHd h c P) : CodeHd h' c P := by
 unfold CodeHd
 refine k ▸ ?_
 exact C
def CodeHd.ne {h : Heap} {ps : Array Value} (C : CodeHd h c P) (hP : h.get? P = some (tabObj ps)) : c ≠ P /\ ∃ o, h.get? c = some o := by
 obtain ⟨⟨o, vs, e1, e2, -⟩, -⟩ := C.tab hP
 refine ⟨fun e => ?_, o, e1⟩
 replace e1 := hP ▸ e ▸ e1
 obtain rfl := Option.some.inj e1
 contradiction
def aM.xr (S : aM G Γ s) (C : CodeHd G.h c P) (ts : G.ts = [P]) : CodeHd s.heap c P := by
 obtain ⟨_, ps, t⟩ := G.sO P (by rw [ts]; exact .head _)
 obtain ⟨ne, o, e⟩ := CodeHd.ne C t.2
 exact CodeHd.congr ((S.keep _ _ e (by rw [ts]; intro q; exact ne (List.mem_singleton.mp q))).trans e.symm) C
theorem aM.tab {ps more : Array Value} (S : aM G Γ s) (T : lA G c P qual pos) (hP : s.heap.get? P = some (tabObj ps)) (hx : Heap.ExtBut P s.heap s'.heap) (GB : s'.heap.get? P = some (tabObj (ps ++ more)))
  (ht : fK (bc G Γ) (bc G Γ) s.heap s'.heap -> G.tP.P (bc G Γ) s'.heap (ps ++ more)) (hg : s'.gens = s.gens) (eK : s'.os = s.os) : aM G Γ s' /\ Step G Γ s.heap Γ s'.heap := by
 have vq : P ∈ G.ts := by rw [T.ts]; exact .head _
 have ne : ∀ b, ¬ bc G Γ b -> b ≠ P := fun b nv e => nv (.inl (e ▸ vq))
 have step : Step G Γ s.heap Γ s'.heap := by
  refine ⟨fun a ha o e => ?_, fun a o e nv => hx _ _ (ne a nv) e, fun a q => .inl q⟩
  replace ha := T.ts ▸ ha
  cases List.mem_singleton.mp ha
  exact ⟨_, GB⟩
 obtain ⟨c₀, HW, t₀⟩ := G.sO P vq
 have C1 := S.xr T.hd T.ts
 have C2 : CodeHd s'.heap c P := by
  obtain ⟨iG, o, e⟩ := CodeHd.ne C1 hP
  exact CodeHd.congr ((hx _ _ iG e).trans e.symm) C1
 refine ⟨⟨S.old.step_table t₀ (C1.tab hP) (C2.tab GB) hx T.st, fun b o e nb => hx _ _ (fun q => nb (q ▸ vq)) (S.keep b o e nb), fun b hb => ?_, fun p hp => ?_, S.nodup, S.low, hg.trans S.gens, eK.trans S.os⟩, step⟩
 .replace hb := T.ts ▸ hb
  cases List.mem_singleton.mp hb
  exact ⟨_, GB, ht step.az⟩
 .refine (S.own p hp).keep step.az fun o e => hx _ _ (fun q => ?_) e
  have := S.low p hp
  replace this := t₀.2 ▸ q ▸ this; contradiction
def BI {name : Str} {params : Arguments} {body : List Stmt} {scope : Scope} {firstLine : Nat} {Q : Value -> Shared -> Prop} (T : lA G c P qual pos) (S : aM G Γ s) (CF : closureFor scope env = pure cN) (HX : env.globals = mainGlobals) (oh : env.code = .ref c)
  (h : ∀ f s', aM G ((f, yO name qual params body scope cN) :: Γ) s' -> Step G Γ s.heap ((f, yO name qual params body scope cN) :: Γ) s'.heap -> Q (.ref f) s') :
  wpAny G.M A (makeFunction name qual params (.stmts body) scope env [] [] [] pos firstLine) Q X s := by
 have vq : P ∈ G.ts := by rw [T.ts]; exact .head _
 have C1 := S.xr T.hd T.ts
 obtain ⟨ps, hP, Bf⟩ := S.tabs P vq
 k_dflt obtain ⟨bm, ob, b1, b2, b3, b4, b5, b6⟩ := T.bm
 have hb : s.heap.BuiltinsAt G.mg P := ⟨bm, ob, b1, b2, b3, b4, S.keep _ _ b5 (by rw [T.ts]; intro q; exact b4 (List.mem_singleton.mp q)), b6⟩
 have J8 : mainGlobals ≠ P := fun q => G.yS (q ▸ vq)
 have Dz := Bf
 rw [T.tP] at Dz
 k_dflt rcases Dz with rfl | ⟨c', oc, us, t, rfl, e1, n1, e2, e3⟩
 .refine makeFunction_K CF HX S.mg oh C1 hP (by trivial) rfl J8 hb fun c' vp doc h' tk hx J9 j7 GC Ka => ?_
  k_dflt obtain ⟨c2, oc, us, t, ec, GD, hd, hv⟩ := GC
  cases ec
  have nv : ¬ bc G Γ c' := S.fresh (Heap.get?_none_of_le J9)
  have z := S.tab (s' := { s with heap := h', toks := tk }) T hP hx Ka (fun k => by rw [T.tP]; exact .inr ⟨c', oc, us, t, by rfl, GD, nv, hd, hv⟩) rfl rfl
  have z2 := z.1.alloc (s' := { s with heap := h'.push (fnMade name qual params body scope cN doc ((G.mg "__name__").getD .none) c' vp), toks := tk }) (o' := yO name qual params body scope cN) rfl rfl rfl fun k =>
   ⟨doc, _, c', vp, oc, us, t, Heap.get?_push_size _ rfl, (k _ _ GD nv).1, (k _ _ GD nv).2, hd, hv⟩
  exact h _ _ z2.1 (z.2.trans z2.2)
 .refine makeFunction_hit (cv := .ref c') CF HX S.mg oh C1 hP (by trivial) (by simp [codeAmong, rawInt]) hb fun vp doc h' tk hk vd => ?_
  have z := S.grow (s' := { s with heap := h', toks := tk }) hk rfl rfl
  have k1 := z.2.az _ _ e1 n1
  have z2 := z.1.alloc (s' := { s with heap := h'.push (fnMade name qual params body scope cN doc ((G.mg "__name__").getD .none) c' vp), toks := tk }) (o' := yO name qual params body scope cN) rfl rfl rfl fun k =>
   ⟨doc, _, c', vp, oc, us, t, Heap.get?_push_size _ rfl, (k _ _ k1.1 k1.2).1, (k _ _ k1.1 k1.2).2, e2, e3⟩
  exact h _ _ z2.1 (z.2.trans z2.2)
def W1.xt {name : Str} {params : Arguments} {body : List Stmt} {scope : Scope} {cc : Addr} {o : Option AV} {Q : aN -> aa -> Prop} (T : lA G c P qual pos) (ok : aA env names L cl) (oh : env.code = .ref c) (hq : qualnameIn env name name = qual)
  (len : iT cl scope.names [] cN) (hx : (name, .cell) ∈ names) (hc : (name, cc) ∈ cl) (p : aC cc (.cell o) Γ R)
  (q : ∀ f, Q .next ((cc, .cell (some (.raw (.ref f)))) :: (f, yO name qual params body scope cN) :: R))
  (Kb : autoParam (params.defaults = []) aR) (Kc : autoParam (params.kw_defaults = []) aR) (ha : autoParam (annTrees params none env = []) aR) : W1 G A X env (.FunctionDef name params body [] none [] scope none name pos) Γ Q := .mk fun s S => by
 refine nestDef_K Kb Kc ha ?_
 refine hq ▸ ?_
 refine BI T S (jk ok len) ok.globals oh fun f s' S' T' => ?_
 refine wpAny_mono (lO (A := A) (X := X) (Q := fun ae => Q .next ae) (ok.kindOf hx) (ok.cells _ _ hc) (.there p) S' (.raw _) (q f) ok.kind) (fun _ _ ⟨b, ae, rb, S2, T2, q2⟩ => ⟨.next, ae, .next, S2, T'.trans T2, q2⟩) fun _ _ e => e
def l9 : ∀ (names : List (Str × NameKind)) (n : Nat) (acc : List (Str × Addr)), (∀ x ∈ names, x.2 ≠ .cell) -> cellsFrom n names acc = acc := by
 intro names; induction names with
 | nil => intro _ _ _; rfl
 | cons y r ih =>
  intro n acc h
  obtain ⟨y, k⟩ := y
  unfold cellsFrom
  have : (k == NameKind.cell) = false := by
   have := h (y, k) (.head _)
   induction k <;> first | rfl | exact absurd rfl this
  refine this ▸ ?_
  exact ih n acc fun x hx => h x (.tail _ hx)
def WC.GF {f : Addr} {name p1 : Str} {params : Arguments} {body : List Stmt} {scope : Scope} {l8 : List (Str × Addr)} {x1 : AV} {m : List (Str × Option AV)} {n : Nat} {Q : AV -> aa -> Prop} (p : aC f (yO name qual params body scope l8) Γ R) (hR : aj A (n + 1))
  (hb : ∀ doc pm cd ct (s : Shared) v1, BindsTo s (fnX name qual params body scope l8 .none .none doc pm none cd ct) ⟨[v1], []⟩ [(p1, v1)]) (hs : bz scope.names = true) (GG : (p1, NameKind.local) ∈ scope.names) (ud : ∀ x ∈ scope.names, x.2 ≠ .cell)
  (l : Lay scope.names [(p1, x1)] m []) (CF : (l8.map (·.1)).Nodup)
  (h : ∀ L env A' X', aA env scope.names L l8 -> aj A' n -> WS G A' X' env body ((L, .ns m) :: Γ) fun fl ae => Fin G Q (iH fl) ae)
  (iS : autoParam (scope.isCoroutine = false) aR) (cW : autoParam (scope.isGenerator = false) aR) (hk : autoParam (scope.kind = .function) aR) : WC G A X (.ref f) [x1] Γ Q := .jh (.mk fun s vs S r => by
 k_dflt obtain ⟨nd, nb⟩ := ew hs
 k_dflt obtain ⟨doc, pm, c', vp, oc, us, t, e, e1, n1, e2, e3⟩ := S.at p
 obtain ⟨v1, rfl, r1⟩ : ∃ v1, vs = [v1] /\ Rep (bc G Γ) s.heap v1 x1 := r.inv1
 refine codeAny_mono (R := fun r s' => match r with | .ok (.ret v) => gv G Γ s.heap Rep (Mine.Fin G Q) v s' | .ok _ => False | .error e => X e s') ?_ fun r s' z => ?_
 rotate_left
 .rcases r with e | (v | _ | _ | _) <;> first | exact z | skip
  k_dflt obtain ⟨b, ae, r, S', T', CW, jd, ⟨w, t⟩, q⟩ := z
  exact ⟨CW, jd, t _ _ S' r, w.sim S', T'.trans w.step, q⟩
 have HY : scope.names.lookup p1 = some .local := ck nd GG
 refine codeAny_call_function (fd := fnX name qual params body scope l8 .none .none doc pm none (.ref c') vp) (body := body) hR.lt e rfl iS cW rfl ⟨c', oc, us, t, rfl, e1, e2, e3⟩ ?_
 refine hb doc pm (.ref c') vp s v1 _ _ _ _ ?_
 refine wpAny_newFunctionEnv ud (fun x hx => by cases List.mem_singleton.mp hx; exact HY) (fun h' Cv ue => ?_) hk
 have AJ : ∀ b o, s.heap.get? b = some o -> h'.get? b = some o := fun b o e => ue.extBut b o (Nat.ne_of_lt (Heap.lt_size e)) (Heap.get?_push_of_some _ e)
 have Kd : bindL (fun x => scope.names.lookup x) [(p1, v1)] (fun _ => none) = fun x => ([(p1, v1)] : List (Str × Value)).reverse.lookup x := by
  funext x
  simp only [bindL, HY, if_true, List.reverse_cons, List.reverse_nil, List.nil_append, List.lookup]
  by_cases hx : x = p1
  .subst hx; simp
  .exact (if_neg hx) ▸ (beq_eq_false_iff_ne.mpr hx) ▸ rfl
 have I : InCallC s s.heap.objs.size (bindL (fun x => scope.names.lookup x) ([p1].zip [v1]) fun _ => none) (cellsFrom (s.heap.objs.size + 1) scope.names []) (bindC (fun x => scope.names.lookup x) ([p1].zip [v1]) fun _ => none) { s with heap := h', toks := s.toks + 1 } := by
  rw [l9 _ _ _ ud]
  refine ⟨⟨⟨h', _, rfl⟩, ?_, AJ, Nat.le_refl _⟩, fun n c h => (by contradiction), .nil, fun n c h => (by cases h)⟩
  show h'.Ns s.heap.objs.size (bindL _ [(p1, v1)] _)
  rw [Kd]; exact Cv
 have z := S.frame (ns := [p1]) (xs := [x1]) rfl (kindOf := fun x => scope.names.lookup x) rfl nd l (.one r1) rfl I rfl rfl
 refine ⟨S.lim.keeps AJ, codeAny_func ?_⟩
 refine wpAny_mono ((h s.heap.objs.size _ _ _ ⟨rfl, hk, nd, nb, rfl, rfl, rfl, fun x c hc => lookup_mem CF hc⟩ hR.deeper).go _ z.1) (fun fl Be zz => ?_) fun e Be x => x
 obtain ⟨af, ae, rf, S', T', q⟩ := zz
 induction rf with
 | ret rv => exact ⟨_, ae, rv, S', z.2.trans T', q⟩
 | _ => exact ⟨_, ae, .raw _, S', z.2.trans T', q⟩)
def kK {a : Addr} {o : bG} : ∀ {Γ : aa}, (a, o) ∈ Γ -> ∃ R, aC a o Γ R := by
 intro Γ; induction Γ with
 | nil => intro h; cases h
 | cons e Γ ih =>
  intro h
  rcases List.mem_cons.mp h with rfl | h
  .exact ⟨_, .here⟩
  .exact (ih h).elim fun _ q => ⟨_, .there q⟩
theorem Keeps.yO {f : Addr} {name : Str} {params : Arguments} {body : List Stmt} {scope : Scope} {l8 : List (Str × Addr)} (p : (f, Mine.yO name qual params body scope l8) ∈ Γ) : Keeps G (.ref f) Γ := .mk fun s S => by
 k_dflt obtain ⟨doc, pm, c', vp, oc, us, t, e, _⟩ := S.own _ p
 exact keeps_F s.heap ⟨_, _, _, _, e⟩
end
end
section
set_option backward.match.sparseCases false
mutual
noncomputable def xu : AV -> Bool
 | .raw .none => true
 | .raw (.bool _) => true
 | .int _ => true
 | .str _ => true
 | .tup xs => vr xs
 | _ => false
noncomputable def vr : List AV -> Bool
 | [] => true
 | x :: xs => xu x && vr xs
end
mutual
noncomputable def oj (P : Params) : AV -> Int
 | .raw .none => 0xFCA86420
 | .raw (.bool b) => if b then 1 else 0
 | .int i => reduceHash (intHash i)
 | .str x => PyData.keyHash P x
 | .tup xs => reduceHash (Builtin.Tuple.tupleHashOf (lB P xs))
 | _ => 0
noncomputable def lB (P : Params) : List AV -> List Int
 | [] => []
 | x :: xs => oj P x :: lB P xs
end
mutual
noncomputable def ma : AV -> Nat
 | .tup xs => jw xs + 1
 | _ => 1
noncomputable def jw : List AV -> Nat
 | [] => 0
 | x :: xs => ma x + jw xs
end
mutual
noncomputable def om : AV -> Nat
 | .tup xs => me xs + 1
 | _ => 0
noncomputable def me : List AV -> Nat
 | [] => 0
 | x :: xs => max (om x) (me xs)
end
section
variable {prog : Program} {w : PySem.World} {E : Value -> Shared -> Prop} {V : Addr -> Prop}
def vt (x : AV) : ∀ (v : Value) (A : Around) (s : Shared) (Q : Int -> Shared -> Prop), xu x = true -> Rep V s.heap v x -> A.units + om x < cLine ->
  Q (oj w.params x) { s with toks := s.toks + ma x } -> wpAny (model prog w) A (pyHash v) Q E s := by
 refine AV.rec (motive_1 := fun x => ∀ (v : Value) (A : Around) (s : Shared) (Q : Int -> Shared -> Prop), xu x = true -> Rep V s.heap v x -> A.units + om x < cLine ->
   Q (oj w.params x) { s with toks := s.toks + ma x } -> wpAny (model prog w) A (pyHash v) Q E s)
  (motive_2 := fun xs => ∀ (vs : List Value) (A : Around) (s : Shared) (b : Array Int) (Q : Array Int -> Shared -> Prop), vr xs = true -> ah V s.heap vs xs -> A.units + me xs < cLine ->
   (∀ b', b'.toList = b.toList ++ lB w.params xs -> Q b' { s with toks := s.toks + jw xs }) ->
   wpAny (model prog w) A (forIn vs b fun x r => do let h <- pyHash x; pure PUnit.unit; pure (ForInStep.yield (r.push h))) Q E s) ?_ ?_ ?_ ?_ ?_ ?_ ?_ ?_ ?_ x
 .intro u v A s Q hk r hu h
  have ri := r.inv; clear r; cases ri
  cases u with
  | none => exact pyHash_slot (T := "NoneType") rfl F.slot_NoneType_hash F.entry_NoneType_hash (F.args_NoneType_hash_1 _) (beq_builtin_none _) (.inr (by tm_at "o")) (wpAny_bind (wpAny_pure (wpAny_bind (wpAny_mkInt (wpAny_pure ⟨_, _, rfl, h⟩)))))
  | bool b =>
   refine pyHash_slot (T := "bool") rfl F.slot_bool_hash entry_int_hash (args_int_hash _) (beq_builtin_none _) (.inr (by tm_at "o")) ?_
   cases b
   .exact (show wpAny _ _ (do ret (<- mkInt 0)) _ _ s from wpAny_bind (wpAny_mkInt (wpAny_pure ⟨_, _, rfl, h⟩)))
   .exact (show wpAny _ _ (do ret (<- mkInt 1)) _ _ s from wpAny_bind (wpAny_mkInt (wpAny_pure ⟨_, _, rfl, h⟩)))
  | _ => contradiction
 .intro i v A s Q _ r _ h; apply Rep.dZ r; intro t; exact wpAny_pyHash_int (hashW_int w.params i ▸ h)
 .intro y v A s Q _ r _ h; apply Rep.qN r; intro t; exact wpAny_pyHash_str h
 .intro xs ih v A s Q hk r hu h
  apply Rep.lJ r; intro a vs n hg nv rs
  refine pyHash_slot (T := "tuple") ⟨_, hg, rfl⟩ F.slot_tuple_hash F.entry_tuple_hash (F.args_tuple_hash_1 _) (beq_builtin_none _) (.inr (by tm_at "o")) ?_
  show wpAny _ _ (Builtin.Tuple.tupleItemsOf (.ref a) >>= _) _ _ s
  refine wpAny_bind (wpAny_tupleItemsOf hg rfl ?_)
  refine wpAny_bind ?_
  rw [<- Array.forIn_toList]
  refine ih vs A.in1 s #[] _ hk rs (show A.units + 1 + me xs < cLine from by have : om (.tup xs) = me xs + 1 := rfl; tm_at "o") fun b hb => ?_
  show wpAny _ _ (retInt (Builtin.Tuple.tupleHashOf b.toList)) _ _ _
  refine hb ▸ ?_
  exact wpAny_bind (wpAny_mkInt (wpAny_pure ⟨_, _, rfl, by dsimp only [oj, ma] at h; exact h⟩))
 .intro _ _ _ _ _ _ hk; contradiction
 .intro _ _ _ _ _ _ _ _ hk; contradiction
 .intro _ _ _ _ _ hk; contradiction
 .intro _ A s b Q _ x _ h; apply ah.nh x; exact wpAny_pure (h b (List.append_nil _).symm)
 .intro k xs Ke ih _ A s b Q hk x hu h
  apply ah.iK x; intro v vs x1 x2
  have hk := Bool.and_eq_true_iff.mp hk
  rw [List.forIn_cons]
  refine wpAny_bind (wpAny_bind (Ke _ A s _ hk.1 x1 (Nat.lt_of_le_of_lt (Nat.add_le_add_left (Nat.le_max_left (om k) (me xs)) _) hu) ?_))
  refine wpAny_bind (wpAny_pure (wpAny_pure ?_))
  refine ih _ A _ _ Q hk.2 x2 (Nat.lt_of_le_of_lt (Nat.add_le_add_left (Nat.le_max_right (om k) (me xs)) _) hu) fun b' hb => ?_
  have := h b' (by (dsimp only [lB]; simp [hb]))
  (dsimp only [jw] at this; simp only [<- Nat.add_assoc] at this)
  exact this
def vu : isSubtype (.type "tuple") (.type "tuple") = pure true := isSubtype_tuple_tuple
def xv (x : AV) : ∀ (v : Value) (k : Nat) (A : Around) (s : Shared) (Q : Bool -> Shared -> Prop), xu x = true -> Rep V s.heap v x -> om x <= k -> Q true s -> wpAny (model prog w) A (eqIsQuiet k v) Q E s := by
 refine AV.rec (motive_1 := fun x => ∀ (v : Value) (k : Nat) (A : Around) (s : Shared) (Q : Bool -> Shared -> Prop), xu x = true -> Rep V s.heap v x -> om x <= k -> Q true s -> wpAny (model prog w) A (eqIsQuiet k v) Q E s)
  (motive_2 := fun xs => ∀ (vs : List Value) (k : Nat) (A : Around) (s : Shared) (Q : Option Bool × PUnit -> Shared -> Prop), vr xs = true -> ah V s.heap vs xs -> me xs <= k -> Q (none, PUnit.unit) s ->
   wpAny (model prog w) A (forIn vs ((none, PUnit.unit) : Option Bool × PUnit) fun y r => do let q <- eqIsQuiet k y; if (!q) = true then pure (ForInStep.done (some false, PUnit.unit)) else do pure PUnit.unit; pure (ForInStep.yield (none, PUnit.unit))) Q E s) ?_ ?_ ?_ ?_ ?_ ?_ ?_ ?_ ?_ x
 .intro u v k A s Q hk r _ h
  apply Rep.bX r
  cases u <;> first | (contradiction; done) | (rw [eqIsQuiet_byValue k rfl]; exact wpAny_pure h)
 .intro i v k A s Q _ r _ h; apply Rep.dZ r; intro t; rw [eqIsQuiet_byValue k rfl]; exact wpAny_pure h
 .intro i v k A s Q _ r _ h; apply Rep.qN r; intro t; rw [eqIsQuiet_byValue k rfl]; exact wpAny_pure h
 .intro xs ih v k A s Q hk r hl h
  apply Rep.lJ r; intro a vs n hg nv rs
  have hT : s.TypeIs (.ref a) "tuple" := ⟨_, hg, rfl⟩
  have hl : me xs + 1 <= k := hl
  obtain ⟨k', rfl⟩ : ∃ k', k = k' + 1 := ⟨k - 1, by tm_at "o"⟩
  unfold eqIsQuiet
  refine wpAny_bind (wpAny_specialOf hT F.slot_tuple_eq.lookup ?_)
  skip
  refine wpAny_bind (wpAny_isInstance hT vu ?_)
  skip
  refine wpAny_bind (wpAny_seqItems hg rfl ?_)
  refine wpAny_bind ?_
  skip
  rw [<- Array.forIn_toList]
  exact ih vs k' A s _ hk rs (Nat.le_of_succ_le_succ hl) (wpAny_pure h)
 .intro _ _ _ _ _ _ _ hk; contradiction
 .intro _ _ _ _ _ _ _ _ _ hk; contradiction
 .intro _ _ _ _ _ _ hk; contradiction
 .intro _ k A s Q _ x _ h; apply ah.nh x; exact wpAny_pure h
 .intro y xs Kf ih _ k A s Q hk x hl h
  apply ah.iK x; intro v vs x1 x2
  have hk := Bool.and_eq_true_iff.mp hk
  have hl : max (om y) (me xs) <= k := hl
  rw [List.forIn_cons]
  refine wpAny_bind (wpAny_bind (Kf _ k A s _ hk.1 x1 (Nat.le_trans (Nat.le_max_left _ _) hl) ?_))
  skip
  refine wpAny_bind (wpAny_pure (wpAny_pure ?_))
  exact ih _ k A s Q hk.2 x2 (Nat.le_trans (Nat.le_max_right _ _) hl) h
end
end
section
noncomputable abbrev lC : Addr -> Prop := fun _ => False
theorem jx {V : Addr -> Prop} {h h' : Heap} (k : ∀ a vs n, h.get? a = some (cj vs n) -> ¬ V a -> h'.get? a = some (cj vs n)) {x : AV} {v : Value} (hk : xu x = true) (r : Rep V h v x) : Rep lC h' v x := by
 refine Rep.rec (motive_1 := fun v x _ => xu x = true -> Rep lC h' v x) (motive_2 := fun vs xs _ => vr xs = true -> ah lC h' vs xs) (fun u _ => .raw u) (fun i t _ => .int i t) (fun y t _ => .str y t)
  (fun ho n _ q hk => .tup (k _ _ _ ho n) (fun q => q) (q hk)) ?_ ?_ ?_ (fun _ => .nil) (fun _ _ a b hk => .cons (a (Bool.and_eq_true_iff.mp hk).1) (b (Bool.and_eq_true_iff.mp hk).2)) r hk
 .intro _ _ _ _ _ _ _ _ hk; contradiction
 .intro _ _ _ _ _ _ _ _ _ _ _ _ _ hk; contradiction
 .intro _ _ _ hk; contradiction
structure j8 (K : Type) [DecidableEq K] where
 enc : K -> AV
 dat : K -> PyData
 hs : ∀ k, xu (enc k) = true
 lv : ∀ k, om (enc k) <= 8
 eD : ∀ k, (enc k).data = some (dat k)
 lay : ∀ k, (dat k).canLay0 = true
 dep : ∀ k, (dat k).depth <= 60
 eqv : ∀ a b, PyData.eqv (dat a) (dat b) = decide (a = b)
section
variable {K : Type} [DecidableEq K]
noncomputable def lD (prog : Program) (w : PySem.World) (F : j8 K) : HeapKind prog w K where
 is := fun h k a => Rep lC h (.ref a) (F.enc k)
 hash := fun k => oj w.params (F.enc k)
 draws := fun k => ma (F.enc k)
 room := fun A => A.units + 64 < cLine
 inj := fun {h a x y} hx hy => by
  obtain ⟨as, ra⟩ := hx.reads (F.eD x)
  obtain ⟨bs, rb⟩ := hy.reads (F.eD y)
  have e := PySem.SeqAt.Reads.unique _ _ _ _ _ (F.lay x) ra rb
  have e1 := F.eqv x y
  rw [<- e, PySem.SeqAt.eqv_refl _ (F.lay x)] at e1
  exact of_decide_eq_true e1.symm
 keeps := fun {h h' k a d o es ep} r ho hd hs => jx (fun b vs n e _ => (hs.2 b fun q => by replace e := ho ▸ q ▸ e; obtain rfl := Option.some.inj e; contradiction).trans e) (F.hs k) r
 pyHash := fun {A E s k a Q} hu r h => vt _ _ _ _ _ (F.hs k) r (by have := F.lv k; tm_at "o") h
 eqBool := fun {A E s x y a b Q} hu hx hy h => by
  obtain ⟨as, ra⟩ := hx.reads (F.eD x)
  obtain ⟨bs, rb⟩ := hy.reads (F.eD y)
  refine PySem.SeqAt.eqAt_reads _ _ A s _ _ as bs ra rb (F.lay x) (F.lay y) ?_ _ _ _ _ (by rw [F.eqv]; exact h)
  have h1 : min (F.dat x).depth (F.dat y).depth <= (F.dat x).depth := Nat.min_le_left _ _
  have := F.dep x
  tm_at "o"
 quiet := fun {A E s k a Q} r h => xv _ _ _ _ _ _ (F.hs k) r (F.lv k) h
inductive xw (F : j8 K) (n : Nat) (W : Params) (V : Addr -> Prop) (h : Heap) (a : Addr) : Prop
 | mk (ns : (a == sysModules) = false) (es : Array DictEntry) (ep : Nat) (xs : List (K × Addr × Value)) (e : h.get? a = some { cls := .type "dict", data := .dict es ep }) (e1 : es.toList = xs.map (fun x => ⟨oj W (F.enc x.1), .ref x.2.1, x.2.2⟩)) (e2 : ∀ x ∈ xs, Rep V h (.ref x.2.1) (F.enc x.1)) (e3 : (xs.map (·.1)).Nodup) (e4 : xs.length <= n)
noncomputable def gU (F : j8 K) (n : Nat) : bG := .dS {
 P := xw F n
 there := fun W V h a z => (by induction z with | mk _ _ _ _ e => exact ⟨_, e⟩)
 keep := fun W V V' h h' a k ka zz => (by refine gF fun Z => ?_; obtain ⟨ns, es, ep, xs, e, e1, e2, e3, e4⟩ := zz; exact Z (⟨ns, es, ep, xs, ka _ e, e1, fun x hx => (e2 x hx).keep k, e3, e4⟩))}
variable {F : j8 K} {G : Base} {A : Around} {X : Value -> Shared -> Prop} {env : Env} {pos : Pos} {Γ ag R : aa} {s s' : Shared} {a d : Addr} {k n m : Nat} {Q : AV -> aa -> Prop}
def oo (S : aM G Γ s) (p : aC a (gU F n) Γ R) : (a == sysModules) = false /\ ∃ xs, s.heap.DictOfH (lD G.prog G.w F) a xs /\ xs.length <= n /\ (∀ x ∈ xs, Rep (bc G Γ) s.heap (.ref x.2.1) (F.enc x.1)) := by
 k_dflt obtain ⟨ns, es, ep, xs, e, e1, e2, e3, e4⟩ := S.at p
 exact ⟨ns, xs, ⟨_, es, ep, e, ⟨rfl, rfl, rfl⟩, rfl, e1, fun x hx => jx (fun _ _ _ q _ => q) (F.hs _) (e2 x hx), e3⟩, e4, e2⟩
def uv {V : Addr -> Prop} {h : Heap} {v : Value} {xs : List AV} (r : Rep V h v (.tup xs)) : ∃ b, v = .ref b := by have ri := r.inv; clear r; induction ri; exact ⟨_, rfl⟩
def aj.DA {A : Around} {n : Nat} (r : aj A n) : A.in1.units + 64 < cLine := by have := r.units; show A.units + 1 + 64 < cLine; tm_at "o"
def WB.BJ (hR : aj A m) {x : K} {xs : List AV} (hx : F.enc x = .tup xs) (p : aC a (gU F n) Γ R) (q : ∀ b, Q (.raw (.bool b)) Γ) : WB G A X (compareOp .In) Rep (F.enc x) (.raw (.ref a)) Γ Q := .mk fun s v w S rv rw => by
 have ri := rw.inv; induction ri
 k_dflt obtain ⟨ns, ys, hm, hl, _⟩ := oo S p
 obtain ⟨b, rfl⟩ := uv (hx ▸ rv)
 exact wpAny_in_heap (knd := lD G.prog G.w F) hR.DA (jx (fun _ _ _ q _ => q) (F.hs x) rv) ns hm (.here (.raw _) (S.toks _) (S.same (s' := { s with toks := _ }) rfl rfl rfl).2 (q _))
def WK.Kg (hR : aj A m) {x : K} {xs : List AV} {y : AV} {Q : aa -> Prop} (hx : F.enc x = .tup xs) (p : aC a (gU F n) Γ R) (hz : n <= 1000) (q : Q ((a, gU F (n + 1)) :: R)) : WK G A X (.raw (.ref a)) (F.enc x) y Γ Q := .mk fun s ov iv vv S ro ri rv => by
 apply Rep.bX ro
 obtain ⟨ns, ys, hm, hl, hr⟩ := oo S p
 obtain ⟨b, rfl⟩ := uv (hx ▸ ri)
 refine wpAny_setItem_heap (knd := lD G.prog G.w F) hR.DA (jx (fun _ _ _ q _ => q) (F.hs x) ri) hm (fun h' sU hs => ?_) (Nat.le_trans hl (Nat.le_trans hz (by decide)))
 have z := S.change (s' := { s with heap := h', toks := s.toks + (lD G.prog G.w F).draws x }) (o' := gU F (n + 1)) p hs rfl rfl fun kk => by
  k_dflt obtain ⟨o, es, ep, e, ⟨c1, c2, c3⟩, e0, e1, e2, e3⟩ := sU
  refine ⟨ns, es, ep, _, ?_, e1, ?_, e3, ?_⟩
  .induction o; simp only at c1 c2 c3 e0; subst c1 c2 c3 e0; exact e
  .intro z hz
   k_dflt rcases mem_storedH hz with ⟨y, hy, e1, e2⟩ | ⟨e1, e2⟩
   .rw [e1, e2]; exact (hr y hy).keep kk
   .rw [e1, e2]; exact ri.keep kk
  .unfold storedH
   split
   .rw [List.length_map]; tm_at "o"
   .rw [List.length_append]; simp; tm_at "o"
 exact .here rfl z.1 z.2 q
def WE.zA (q : ∀ a, Q (.raw (.ref a)) ((a, gU F 0) :: Γ)) : WE G A X env (.Dict [] [] pos) Γ Q := .mk fun s S => by
 refine wpAny_Dict_empty ?_
 have z := S.alloc (s' := { s with heap := s.heap.push { cls := .type "dict", data := .dict #[] } }) (o' := gU F 0) rfl rfl rfl fun k => ⟨fM S, #[], 0, [], Heap.get?_push_size _ rfl, rfl, (fun _ h => nomatch h), List.Pairwise.nil, Nat.le_refl _⟩
 exact .here (.raw _) z.1 z.2 (q _)
end
end
section
section
variable {env : Env} {pos : Pos} {Γ ag ae jd R P : aa} {s s' : Shared} {a d e L C : Addr} {y : AV} {Q : AV -> aa -> Prop} {m m' : List (Str × Option AV)} {f f' : List (Str × AV)} {x : Str} {h : Heap}
structure Seen (G : Base) (Γ ae : aa) : Prop where
 sim : ∀ s, aM G Γ s -> aM G ae s
 keys : ∀ b ∈ keys ae, b ∈ keys Γ
def Seen.step (z : Seen G Γ ae) : Step G Γ h ae h := ⟨fun _ _ o e => ⟨o, e⟩, fun _ _ e _ => e, fun a q => .inl (z.keys a q)⟩
def Seen.weak (w : ao Γ ae) : Seen G Γ ae := ⟨fun s S => w.sim S, fun b hb => by
 obtain ⟨R, p⟩ := w
 obtain ⟨q, hq, rfl⟩ := List.mem_map.mp hb
 exact List.mem_map_of_mem (p.mem_iff.mpr (List.mem_append_left _ hq))⟩
def Seen.trans (z : Seen G Γ ae) (z' : Seen G ae jd) : Seen G Γ jd := ⟨fun s S => z'.sim s (z.sim s S), fun b hb => z.keys b (z'.keys b hb)⟩
def WS.seen {ss : List Stmt} {Q : aN -> aa -> Prop} (z : Seen G Γ ae) (h : WS G A X env ss ae Q) : WS G A X env ss Γ Q := .mk fun s S => (h.go s (z.sim s S)).back z.step
def W1.seen {st : Stmt} {Q : aN -> aa -> Prop} (z : Seen G Γ ae) (h : W1 G A X env st ae Q) : W1 G A X env st Γ Q := .mk fun s S => (h.go s (z.sim s S)).back z.step
def WE.seen {ex : Expr} (z : Seen G Γ ae) (h : WE G A X env ex ae Q) : WE G A X env ex Γ Q := .mk fun s S => (h.go s (z.sim s S)).back z.step
theorem WC.fin {fv : Value} {xs : List AV} (h : WC G A X fv xs Γ (Mine.Fin G Q)) : WC G A X fv xs Γ Q := .mk fun s vs S r => (h.go s vs S r).fin
theorem W1.weak {st : Stmt} {Q : aN -> aa -> Prop} (w : ao Γ ae) (h : W1 G A X env st ae Q) : W1 G A X env st Γ Q := h.seen (.weak w)
def kL (G : Base) (P : aa) (e : Addr) (y : AV) : Prop := ∀ R s, aM G (P ++ R) s -> Rep (bc G R) s.heap (.ref e) y
theorem eA : ∀ {P R : aa}, ao (P ++ R) R
 | [], _ => .refl _
 | _ :: _, _ => eA.drop
theorem kL.list {xs : List AV} : kL G [(e, .list xs)] e (.lst xs) := fun R s S => (eQ S).2
theorem kL.dict {es : List (Str × AV)} : kL G [(e, .bj es)] e (ar G.w.params es) := fun R s S => (kG S).2
theorem kL.inst {fs : List (Str × AV)} : kL G [(e, .inst C d), (d, .fld fs)] e (gj G.w.params C fs) := fun R s S => by
 have hi : s.heap.get? e = some (instObj C d) := S.own (e, .inst C d) (.head _)
 k_dflt obtain ⟨bZ, k, e2, sk, rs, nd⟩ := S.own (d, .fld fs) (.tail _ (.head _))
 have w : ao ([(e, bG.inst C d), (d, .fld fs)] ++ R) R := eA
 have yL : ¬ bc G R e := jl (Γ := R) (o := .inst C d) ((ao.pick .here (ao.drop (.refl R))).sim S)
 have yM : ¬ bc G R d := jl (Γ := R) (o := .fld fs) ((ao.drop (.refl _)).sim S)
 exact .dS ⟨e, d, bZ, k, rfl, hi, yL, e2, yM, sk, rs.weak w, nd⟩
def Turn.d8 (z : kL G P e y) : Turn G (P ++ R) (.raw (.ref e)) R y := ⟨eA, fun s u S r => by apply Rep.bX r; exact z R s S⟩
def aM.tw {o o' : bG} (S : aM G ((a, o) :: Γ) s) (h : lk G.w.params (bc G ((a, o') :: Γ)) s.heap a o') : aM G ((a, o') :: Γ) s := by
 have hv : bc G ((a, o') :: Γ) = bc G ((a, o) :: Γ) := rfl
 refine ⟨S.old, S.keep, S.tabs, fun p hp => ?_, S.nodup, fun p hp => ?_, S.gens, S.os⟩
 .rcases List.mem_cons.mp hp with rfl | hp
  .exact h
  .exact S.own p (.tail _ hp)
 .rcases List.mem_cons.mp hp with rfl | hp
  .exact S.low (a, o) (.head _)
  .exact S.low p (.tail _ hp)
inductive Sw : AV -> AV -> List (Str × AV) -> List (Str × AV) -> Prop
 | here {u y x m} : Sw u y ((x, u) :: m) ((x, y) :: m)
 | there {u y e m m'} : Sw u y m m' -> Sw u y (e :: m) (e :: m')
theorem Sw.keys {u y : AV} (w : Sw u y f f') : f'.map (·.1) = f.map (·.1) := by induction w with | here => rfl | there _ ih => simp [ih]
def Sw.GH {u y : AV} {V : Addr -> Prop} {h : Heap} (w : Sw u y f f') (k : ∀ v, Rep V h v u -> Rep V h v y) : ∀ {vs : List Value}, ah V h vs (f.map (·.2)) -> ah V h vs (f'.map (·.2)) := by
 induction w with
 | here => intro vs r; cases r.inv with | cons a b => exact .cons (k _ a) b
 | there _ ih => intro vs r; cases r.inv with | cons a b => exact .cons a (ih b)
theorem Seen.field (z : kL G P e y) (w : ao Γ ((d, .fld f) :: (P ++ R))) (sw : Sw (.raw (.ref e)) y f f') : Seen G Γ ((d, .fld f') :: R) := by
 refine (Seen.weak w).trans ⟨fun s S => ?_, fun b hb => ?_⟩
 .have S1 : aM G (P ++ (d, .fld f) :: R) s := S.perm List.perm_middle.symm
  have r := z _ s S1
  have S2 : aM G ((d, .fld f) :: R) s := eA.sim S1
  k_dflt obtain ⟨bZ, k, e2, sk, rs, nd⟩ := S2.own (d, .fld f) (.head _)
  refine S2.tw ⟨bZ, k, e2, by rw [sw.keys]; exact sk, ?_, by rw [sw.keys]; exact nd⟩
  exact sw.GH (fun v rv => by apply Rep.bX rv; exact r) rs
 .show b ∈ Mine.keys ((d, .fld f) :: (P ++ R))
  rcases List.mem_cons.mp hb with rfl | hb
  .exact .head _
  .refine .tail _ ?_
   have : b ∈ (P ++ R).map Prod.fst := by rw [List.map_append]; exact List.mem_append_right _ hb
   exact this
theorem Seen.local (z : kL G P e y) (w : ao Γ ((L, .ns m) :: (P ++ R))) (hm : (x, some (.raw (.ref e))) ∈ m) (hp : nZ m x y m') : Seen G Γ ((L, .ns m') :: R) := by
 refine (Seen.weak w).trans ⟨fun s S => ?_, fun b hb => ?_⟩
 .have S1 : aM G (P ++ (L, .ns m) :: R) s := S.perm List.perm_middle.symm
  have r := z _ s S1
  have S2 : aM G ((L, .ns m) :: R) s := eA.sim S1
  obtain ⟨mm, hn, nd, hr⟩ := S2.own (L, .ns m) (.head _)
  refine S2.tw ⟨mm, hn, by rw [hp.keys]; exact nd, fun p E9 => ?_⟩
  rcases hp.look nd p E9 with rfl | ⟨q, _⟩
  .have h1 := hr _ hm
   dsimp only at h1 ⊢
   cases e1 : mm x with
   | none => rw [e1] at h1; exact h1.elim
   | some u => replace h1 := e1 ▸ h1; apply Rep.bX h1; exact r
  .exact hr p q
 .show b ∈ Mine.keys ((L, .ns m) :: (P ++ R))
  rcases List.mem_cons.mp hb with rfl | hb
  .exact .head _
  .refine .tail _ ?_
   have : b ∈ (P ++ R).map Prod.fst := by rw [List.map_append]; exact List.mem_append_right _ hb
   exact this
theorem Fin.d8 (w : ao Γ (P ++ R)) (z : kL G P e y) (q : Q y R) : Mine.Fin G Q (.raw (.ref e)) Γ :=
 .turn ⟨w.trans eA, fun s u S r => by apply Rep.bX r; exact z R s (w.sim S)⟩ q
theorem WC.d8 {fv : Value} {xs : List AV} (h : WC G A X fv xs Γ fun v ae => ∃ P e y R, v = .raw (.ref e) /\ ao ae (P ++ R) /\ kL G P e y /\ Q y R) : WC G A X fv xs Γ Q := .fin (.mk fun s vs S r => (h.go s vs S r).mono fun v ae zz => (by refine gF fun Z => ?_; obtain ⟨P, e, y, R, ev, w, z, q⟩ := zz; exact Z (ev ▸ Fin.d8 w z q)))
end
end
section
section
variable {prog : Program} {w : PySem.World} {A : Around} {E : Value -> Shared -> Prop} {s : Shared} {d : Addr}
set_option tactic.hygienic true in
def j9 {kvs : List (Str × Value)} {ep : Nat} {Q : Value -> Shared -> Prop} (hh : A.handled = none) (lo : (d == sysModules) = false) (hm : s.heap.DictAt (PySem.strKind prog w) d kvs ep) (EF : kvs.length < 64)
  (h : ∀ h' tk a vs qL n, (∀ b o, s.heap.get? b = some o -> h'.get? b = some o) -> s.heap.get? a = none -> h'.get? a = some (bW vs n) -> StrsAre vs qL -> qL.Perm (kvs.map (·.1)) -> sortedS qL = true -> Q (.ref a) { s with heap := h', toks := tk }) :
  wpAny (model prog w) A (call (.builtin "sorted") [.ref d]) Q E s := by
 have hn : kvs.length <= sizeLine := Nat.le_trans (Nat.le_of_lt EF) (by decide)
 refine Calls.call_function_entry kind_sorted plain_sorted entry_sorted (args_sorted1 _) ?_
 skip
 refine wpAny_bind (m := checkCount "sorted" 1 1 _) (wpAny_pure ?_)
 refine wpAny_bind (kdu_collect (A := A.in1) (kdl_dict (knd := PySem.strKind prog w) (kvs := kvs) (ep := ep) lo) hh hm hn fun h' tk acc hk zB => ?_)
 have hl : acc.toList.length = kvs.length := by rw [Array.length_toList]; exact zB.1
 have hS : StrsAre acc.toList (kvs.map (·.1)) := by
  have : ∀ (l : List Value) (ks : List (Str × Value)), l.length = ks.length -> (∀ (j : Nat) (v : Value), l[j]? = some v -> ∃ k x, ks[j]? = some (k, x) /\ (PySem.strKind prog w).is k v = true) -> StrsAre l (ks.map (·.1)) := by
   intro l
   induction l with
   | nil => intro ks e _; cases ks with | nil => exact .nil | cons => contradiction
   | cons v l ih =>
    intro ks e q
    cases ks with
    | nil => contradiction
    | cons p ks =>
     obtain ⟨k, x, e1, e2⟩ := q 0 v rfl
     simp only [List.getElem?_cons_zero, Option.some.injEq] at e1
     subst e1
     obtain ⟨t, rfl⟩ : ∃ t, v = .str k t := by
      cases v <;> first | cases e2 | skip
      rename_i y t
      exact ⟨t, by exact (eq_of_beq (show (y == k) = true from e2)) ▸ rfl⟩
     exact .cons _ _ (ih ks (by simpa using e) fun j u hu => q (j + 1) u (by exact hu))
  exact this _ _ hl fun j v hv => zB.2 j v (by refine Array.getElem?_toList ▸ ?_; exact hv)
 refine wpAny_bind (wpAny_newList ?_ (by rw [hl]; exact hn))
 have GI : (h'.push (bW acc.toList 0)).get? h'.objs.size = some (seqObj "list" acc.toList.toArray 0) := Heap.get?_push_size _ rfl
 refine wpAny_bind (wpAny_holding (wpAny_call_entry slot_list_sort ⟨_, GI, rfl⟩ entry_list_sort (list_sort_treeK strKind_oneLt GI hS.keysOf (fun Gn Kh rest e => keyKind_strs (by exact e ▸ (hS))) (by rw [hl]; exact EF) fun sT a1 a2 => ⟨_, rfl, ?_⟩) (args_list_sort _)))
 k_dflt obtain ⟨qL, h1, h2, h3⟩ := sorted_out_str hS a1 a2
 obtain ⟨e, he⟩ := sortedHeap_at (vs := acc.toList) (out := (arrOf sT).map (·.2)) GI
 refine wpAny_pure ⟨_, rfl, h _ _ _ ((arrOf sT).map (·.2)).toList qL e (fun b o hb => ?_) ?_ ?_ h1 h2 h3⟩
 .have EG := hk b o hb
  have j7 := Heap.lt_size EG
  rw [sortedHeap_old (Nat.ne_of_lt j7) (by show b < (h'.push _).objs.size; rw [size_push']; exact Nat.lt_succ_of_lt j7)]
  exact Heap.get?_push_of_some _ EG
 .cases q : s.heap.get? h'.objs.size with
  | none => rfl
  | some o => exact absurd (Heap.lt_size (hk _ _ q)) (Nat.lt_irrefl _)
 .skip
  rw [Array.toArray_toList]; exact he
end
end
section
section
variable {env : Env} {pos : Pos} {Γ ag ai ae R : aa} {s s' : Shared} {n : Nat} {Q : AV -> aa -> Prop} {a d L : Addr} {es : List (Str × AV)} {x : AV}
theorem jy {V : Addr -> Prop} {h : Heap} : ∀ {vs : List Value} {ss : List Str}, StrsAre vs ss -> ah V h vs (ss.map AV.str)
 | _, _, .nil => .nil
 | _, _, .cons y t r => .cons (.str y t) (jy r)
def oq {h : Heap} {kvs : List (Str × Value)} (m : h.DictOf (strKind G.prog G.w) d kvs) : ∃ ep, h.DictAt (strKind G.prog G.w) d kvs ep := (by refine gF fun Z => ?_; obtain ⟨o, es, ep, r⟩ := m; exact Z (⟨ep, o, es, r⟩))
def mf {es : List (Str × AV)} {vs : List Value} {V : Addr -> Prop} {h : Heap} (r : ah V h vs (es.map (·.2))) : ((es.map (·.1)).zip vs).map (·.1) = es.map (·.1) /\ ((es.map (·.1)).zip vs).map (·.2) = vs /\ ((es.map (·.1)).zip vs).length = es.length := by
 have hl := r.length
 rw [List.length_map] at hl
 refine ⟨List.map_fst_zip (by rw [List.length_map]; tm_at "o"), List.map_snd_zip (by rw [List.length_map]; tm_at "o"), by rw [List.length_zip, List.length_map]; tm_at "o"⟩
def WC.eS (hR : aj A n) (h : fo G Γ x es) (EF : es.length < 64) (q : ∀ qL, qL.Perm (es.map (·.1)) -> sortedS qL = true -> Q (.lst (qL.map AV.str)) Γ) : WC G A X (.builtin "sorted") [x] Γ Q := .mk fun s vs S r => by
 apply ah.gQ r; intro v r1
 obtain ⟨a, us, rfl, ns, hm, ru⟩ := h.go S r1
 obtain ⟨ep, GJ⟩ := oq hm
 obtain ⟨k1, k2, k3⟩ := mf ru
 refine j9 hR.handled ns GJ (by rw [k3]; exact EF) fun h' tk b vs qL m hk hn hb hS hp hs => ?_
 rw [k1] at hp
 have z := S.grow (s' := { s with heap := h', toks := tk }) hk rfl rfl
 exact .here (.lst hb (fun q => by
  obtain ⟨o, e⟩ := S.there q; replace e := hn ▸ e; contradiction) (jy hS)) z.1 z.2 (q qL hp hs)
def xx {kvs : List (Str × Value)} (S : aM G Γ s) (hk : ∀ b o, s.heap.get? b = some o -> s'.heap.get? b = some o) (h : s'.heap.DictOf (strKind G.prog G.w) s.heap.objs.size kvs) (ek : kvs.map (·.1) = es.map (·.1))
  (hv : ∀ V', fK (bc G Γ) V' s.heap s'.heap -> ah V' s'.heap (kvs.map (·.2)) (es.map (·.2))) (hg : s'.gens = s.gens) (eK : s'.os = s.os) : aM G ((s.heap.objs.size, .bj es) :: Γ) s' /\ Step G Γ s.heap ((s.heap.objs.size, .bj es) :: Γ) s'.heap := by
 k_dflt obtain ⟨bZ, k, e, sk, Gu, nd⟩ := ig h
 exact S.add (bK _) hk hg eK fun kk => ⟨fM S, bZ, k, e, ek ▸ sk, Gu ▸ hv _ kk, ek ▸ nd⟩
def WC.vx (h : fo G Γ x es) (hz : es.length <= sizeLine) (q : ∀ d, Q (.raw (.ref d)) ((d, .bj es) :: Γ)) : WC G A X (.type "dict") [x] Γ Q := .mk fun s vs S r => by
 apply ah.gQ r; intro v r1
 k_dflt obtain ⟨a, us, rfl, ns, hm, ru⟩ := h.go S r1
 obtain ⟨k1, k2, k3⟩ := mf ru
 refine PySem.kt_call_dict ns hm (by rw [k3]; exact hz) fun h' hd hs => ?_
 have hk : ∀ b o, s.heap.get? b = some o -> h'.get? b = some o := fun b o e => hs.extBut b o (Nat.ne_of_lt (Heap.lt_size e)) (Heap.get?_push_of_some _ e)
 have z := xx (s' := { s with heap := h' }) (es := es) S hk hd k1 (fun V' kk => by rw [k2]; exact ru.keep kk) rfl rfl
 exact .here (.raw _) z.1 z.2 (q _)
inductive zC (P : Params) (es : List (Str × AV)) (V : Addr -> Prop) (h : Heap) (v : Value) : Prop
 | mk (r d : Addr) (bZ : Array DictEntry) (k : Nat) (e : v = .ref r) (e1 : h.get? r = some { cls := .type "dict_items", data := .fields #[.ref d] }) (n1 : ¬ V r) (hs : (d == sysModules) = false) (e2 : h.get? d = some { cls := .type "dict", data := .dict bZ k }) (n2 : ¬ V d) (sk : cz P bZ.toList (es.map (·.1))) (rs : ah V h (bZ.toList.map (·.val)) (es.map (·.2))) (nd : (es.map (·.1)).Nodup)
noncomputable def tx (P : Params) (es : List (Str × AV)) : AV := .dS {
 P := zC P es
 ref := fun V h v z => (by induction z with | mk r _ _ _ e => exact ⟨r, e⟩)
 keep := fun V V' h h' v k zz => (by refine gF fun Z => ?_; obtain ⟨r, d, bZ, n, e, e1, n1, ns, e2, n2, sk, rs, nd⟩ := zz; exact Z (⟨r, d, bZ, n, e, (k _ _ e1 n1).1, (k _ _ e1 n1).2, ns, (k _ _ e2 n2).1, (k _ _ e2 n2).2, sk, rs.keep k, nd⟩))}
theorem WM.items {Q : Value -> List AV -> aa -> Prop} (q : Q (.builtin "dict.items") [ar G.w.params es] Γ) : WM G A X "items" (ar G.w.params es) Γ Q := WM.dict PySem.F.slot_dict_items PySem.F.type_dict_items .d8 q
theorem WC.items (q : Q (tx G.w.params es) Γ) : WC G A X (.builtin "dict.items") [ar G.w.params es] Γ Q := .mk fun s vs S r => by
 apply ah.gQ r; intro v r1
 obtain ⟨a, us, rfl, ns, hm, ru⟩ := fo.d8.go S r1
 cases r1.inv with
 | dS q1 =>
  k_dflt obtain ⟨a', bZ, k, e, _, eo, nv, sk, rs, nd⟩ := q1
  cases e
  refine call_meetsIn PySem.F.slot_dict_items hm.typeIs PySem.F.entry_dict_items (PySem.F.args_dict_items_1 _) (meets_dict_items (strKind G.prog G.w) _ ns) ⟨⟨_, hm⟩, ?_⟩
  have z := S.push (s' := { s with heap := s.heap.push { cls := .type "dict_items", data := .fields #[.ref a] } }) rfl rfl rfl
  have kk := z.2.az
  have rr : Rep (bc G Γ) (s.heap.push { cls := .type "dict_items", data := .fields #[.ref a] }) (.ref s.heap.objs.size) (tx G.w.params es) := .dS ⟨_, a, bZ, k, rfl, Heap.get?_push_size _ rfl, cJ S, ns, (kk _ _ eo nv).1, (kk _ _ eo nv).2, sk, rs.keep kk, nd⟩
  exact .here rr z.1 z.2 q
noncomputable abbrev ot (p : Str × AV) : AV := .tup [.str p.1, p.2]
def tA {V : Addr -> Prop} {h : Heap} {us : List Value} {es : List (Str × AV)} (ru : ah V h us (es.map (·.2))) : ∀ (as : List Addr), as.length = es.length -> (∀ (j : Nat) (a : Addr), as[j]? = some a -> ¬ V a /\ ∃ t u n, us[j]? = some u /\ ∃ k, es[j]? = some k /\ h.get? a = some (cj [.str k.1 t, u] n)) -> ah V h (as.map Value.ref) (es.map ot) := by
 induction es generalizing us with
 | nil => intro as hl _; induction as with | nil => exact .nil | cons => contradiction
 | cons p es ih =>
  intro as hl hj
  cases as with
  | nil => contradiction
  | cons a as =>
   have ri := ru.inv; clear ru; induction ri with
   | cons r1 r2 =>
    k_dflt obtain ⟨nv, t, u, n, e1, k, e2, e3⟩ := hj 0 a rfl
    simp only [List.getElem?_cons_zero, Option.some.injEq] at e1 e2
    subst e1; subst e2
    refine .cons (.tup e3 nv (.cons (.str _ _) (.one r1))) (ih r2 as (by simpa using hl) fun j b hb => hj (j + 1) b (by exact hb))
set_option tactic.hygienic true in
def WC.tB (hR : aj A n) (hz : es.length <= sizeLine) (q : Q (.lst (es.map ot)) Γ) : WC G A X (.type "list") [tx G.w.params es] Γ Q := .mk fun s vs S r => by
 apply ah.gQ r; intro v r1
 have ri := r1.inv; clear r1; induction ri with
 | dS q1 =>
  k_dflt obtain ⟨r, d, bZ, k, rfl, e1, n1, ns, e2, n2, sk, rs, nd⟩ := q1
  have hm := jr (G := G) e2 sk nd
  obtain ⟨ep, GJ⟩ := oq hm
  obtain ⟨k1, k2, k3⟩ := mf rs
  refine kdx_call hR.handled ⟨_, e1, rfl, rfl⟩ GJ (by rw [k3]; exact hz) fun h' tk acc c as hk hl hlen hg zB => ?_
  have z := S.grow (s' := { s with heap := h', toks := tk }) hk rfl rfl
  have fresh : ∀ b, s.heap.objs.size <= b -> ¬ bc G Γ b := fun b hb => S.fresh (Heap.get?_none_of_le hb)
  have jc : h'.get? s.heap.objs.size = some (bW (as.map Value.ref) c) := by rw [hl]; exact zB ▸ rfl
  refine .here (.lst jc (fresh _ (Nat.le_refl _)) (tA (rs.keep z.2.az) as (by rw [hlen, k3]) fun j a ha => ?_)) z.1 z.2 q
  k_dflt obtain ⟨key, kk, u, g1, g2, g3⟩ := hg.pairs j a ha
  refine ⟨fresh a (Nat.le_of_lt (hg.above a (List.mem_of_getElem? ha))), ?_⟩
  obtain ⟨t, rfl⟩ : ∃ t, key = .str kk t := by
   induction key <;> first | cases g2 | skip
   rename_i y t
   exact ⟨t, by exact (eq_of_beq (show (y == kk) = true from g2)) ▸ rfl⟩
  obtain ⟨h1, h2⟩ := List.getElem?_zip_eq_some.mp g1
  rw [List.getElem?_map, Option.map_eq_some_iff] at h1
  k_dflt obtain ⟨p, hp, rfl⟩ := h1
  exact ⟨t, u, 0, h2, p, hp, g3⟩
def vy {V : Addr -> Prop} {h : Heap} : ∀ {ps : List (Str × AV)} {vs : List Value}, ah V h vs (ps.map ot) -> ∃ us : List (Str × Tok × Value), us.map (·.1) = ps.map (·.1) /\ ah V h (us.map (·.2.2)) (ps.map (·.2)) /\ us.length = vs.length /\
  ∀ (j : Nat) k t u, us[j]? = some (k, t, u) -> ∃ a n, vs[j]? = some (.ref a) /\ ¬ V a /\ h.get? a = some (cj [.str k t, u] n) := by
 intro ps
 induction ps with
 | nil => intro vs r; apply ah.nh r; exact ⟨[], rfl, .nil, rfl, fun _ _ _ _ e => nomatch e⟩
 | cons p ps ih =>
  intro vs r
  apply ah.iK r; intro v vs q rs
  k_dflt obtain ⟨us, h1, h2, h3, h4⟩ := ih rs
  cases (show TupAt V h [.str p.1, p.2] _ from q.inv) with
  | @tup a _ n e nv y =>
   have ri := y.inv; clear y; induction ri with
   | cons r1 y2 =>
    have ri := y2.inv; clear y2; induction ri with
    | @cons u _ r2 r3 =>
     have ri := r3.inv; clear r3; induction ri; have ri := r1.inv; clear r1; induction ri with
     | str t =>
      refine ⟨(p.1, t, u) :: us, congrArg (p.1 :: ·) h1, .cons r2 h2, congrArg (· + 1) h3, fun j k t' u' e' => ?_⟩
      induction j with
      | zero => cases e'; exact ⟨a, n, rfl, nv, e⟩
      | succ j => exact h4 j k t' u' e'
def WC.dict_list {ps : List (Str × AV)} (hR : aj A n) (hz : ps.length <= sizeLine) (q : Q (ar G.w.params (putAll [] ps)) Γ) : WC G A X (.type "dict") [.lst (ps.map ot)] Γ Q := .mk fun s vs S r => by
 apply ah.gQ r; intro v r1
 apply Rep.uX r1; intro l ws m e nv rs
 obtain ⟨us, h1, h2, h3, h4⟩ := vy rs
 refine gm (T := "list") (ps := us) (W := fun _ => False) hR.handled ⟨_, e, rfl⟩ (by decide) ?_ ?_ ?_ ?_
 .rw [h3, rs.length, List.length_map]; exact hz
 .intro A' E' Q' s1 Gw kk hQ
  exact rC (kk _ _ e) Gw hQ
 .intro A' E' Q' s1 kk ⟨od, Gx⟩ hQ
  have e1 := kk _ _ e
  refine wpAny_pyIter_list (s := s1) (IsList.of e1) ?_
  have GK : s.heap.objs.size < s1.heap.objs.size := Heap.lt_size Gx
  refine hQ _ (.ref s1.heap.objs.size) (fun c => c = s1.heap.objs.size)
   (fun k h => h.IsListIter s1.heap.objs.size l k /\ h.get? l = some (bW ws m) /\ ∀ (j : Nat) kx t u, us[j]? = some (kx, t, u) -> ∃ a n, ws[j]? = some (.ref a) /\ a < s.heap.objs.size /\ h.get? a = some (cj [.str kx t, u] n)) ?_ ?_ (Nat.ne_of_lt GK) (fun c o q => Heap.get?_push_of_some _ q) (fun c o q w => ?_)
  .have lt : l < s.heap.objs.size := Heap.lt_size e
   refine ⟨fun {A2 k key t v s2 P2 X2} hx ⟨it, hl, hp⟩ BH => ?_, fun {A2 s2 P2 X2} hh ⟨it, hl, hp⟩ BH => ?_, fun {k h h'} ⟨it, hl, hp⟩ k2 ed => ?_⟩
   .obtain ⟨a, n', ha, j7, hg⟩ := hp k key t v hx
    refine wpAny_pyNext_list_item it (IsList.of hl) (x := .ref a) (by simpa using ha) fun h' Ki hs => ?_
    have k3 : ∀ c o, ¬ (c = s1.heap.objs.size) -> s2.heap.get? c = some o -> h'.get? c = some o := fun c o nc q => (hs.2 c nc).trans q
    have ne : ∀ c, c < s.heap.objs.size -> ¬ (c = s1.heap.objs.size) := fun c hc q => by tm_at "o"
    exact BH h' a n' ⟨Ki, k3 _ _ (ne _ lt) hl, fun j kx t u hj => (by refine gF fun Z => ?_; obtain ⟨b, n2, g1, g2, g3⟩ := hp j kx t u hj; exact Z (⟨b, n2, g1, g2, k3 _ _ (ne _ g2) g3⟩))⟩ (k3 _ _ (ne _ j7) hg) k3
   .refine wpAny_pyNext_list_end hh it (IsList.of hl) (by simp [h3]) fun h' he => BH h' fun c o nc q => he c o nc q
   .exact ⟨(by obtain ⟨o, q1, q2⟩ := it; exact ⟨o, k2 _ _ (Nat.ne_of_gt GK) q1, q2⟩), k2 _ _ (Nat.ne_of_lt lt) hl, fun j kx t u hj => (by refine gF fun Z => ?_; obtain ⟨b, n2, g1, g2, g3⟩ := hp j kx t u hj; exact Z (⟨b, n2, g1, g2, k2 _ _ (Nat.ne_of_lt g2) g3⟩))⟩
  .refine ⟨⟨_, Heap.get?_push_size _ rfl, rfl, rfl⟩, Heap.get?_push_of_some _ e1, fun j kx t u hj => ?_⟩
   k_dflt obtain ⟨a, n', ha, _, hg⟩ := h4 j kx t u hj
   exact ⟨a, n', ha, Heap.lt_size hg, Heap.get?_push_of_some _ (kk _ _ hg)⟩
  .have h9 : c < s.heap.objs.size := Heap.lt_size q
   have w' : c = s1.heap.objs.size := w
   rw [w'] at h9
   exact absurd h9 (Nat.lt_asymm GK)
 .intro h' tk hD kk
  have z2 := S.grow (s' := { s with heap := h', toks := tk }) (fun b o e => kk b o (fun q => q) e) rfl rfl
  have ff := rF us ps [] [] rfl .nil .nil h1 (V := bc G Γ) (h := h') (h2.keep z2.2.az)
  exact .here (oa z2.1 (S.fresh (bK _)) (fM S) hD ff.1 ff.2) z2.1 z2.2 q
end
end
section
section
variable {env : Env} {pos : Pos} {Γ ag ai ae R : aa} {s s' : Shared} {n : Nat} {Q : AV -> aa -> Prop} {a d L : Addr} {es : List (Str × AV)} {x : AV}
def W1.DB (hR : aj A n) {target iter : Expr} {body : List Stmt} {Q : aN -> aa -> Prop} (h : WE G A X env iter Γ fun iv ag => cZ iv = some [] /\ Q .next ag)
  (hs : autoParam (∀ x, foldedSetIterable iter env x = pure x) aJ) : W1 G A X env (.For target iter body [] pos) Γ Q :=
 W1.for 1 (fun xs ae => xs = [] /\ Q .next ae) (.mk fun s S => (h.go s S).mono fun iv ae zz => (by obtain ⟨e, q⟩ := zz; exact ⟨au.seq hR e, rfl, q⟩)) (fun X' x rest ae h => nomatch h.1) (fun ae h => h.2) hs
def WE.DC {k1 k2 : Str} {c1 c2 : Nat} {q1 q2 : Pos} {e1 e2 : Expr} (iG : k1 ≠ k2)
  (h : ∀ d, WE G A X env e1 ((d, .bj []) :: Γ) fun y1 pR => WE G A X env e2 pR fun y2 wc => ∃ R, aC d (.bj []) wc R /\ Q (.raw (.ref d)) ((d, .bj [(k1, y1), (k2, y2)]) :: R)) :
  WE G A X env (.Dict [some (.Constant (.str k1) c1 q1), some (.Constant (.str k2) c2 q2)] [e1, e2] pos) Γ Q := .mk fun s S => by
 have z := S.alloc (s' := { s with heap := s.heap.push { cls := .type "dict", data := .dict #[] } }) (o' := .bj []) rfl rfl rfl fun k => ⟨fM S, #[], 0, Heap.get?_push_size _ rfl, .nil, .nil, .nil⟩
 refine wpAny_Dict_walk (knd := strKind G.prog G.w) rfl rfl (by simp) (by simp) ?_
 refine pairTrees_cons_walk (wpAny_Constant_str ?_)
 have z1 := z.1.toks (s.toks + 1)
 refine ((h _).go _ z1).seq fun v1 y1 pR s1 r1 S1 T1 h1 => ?_
 refine pairTrees_cons_walk (wpAny_Constant_str ?_)
 refine (h1.go _ (S1.toks (s1.toks + 1))).seq fun v2 y2 wc s2 r2 S2 T2 zz => ?_
 k_dflt obtain ⟨R, p, q⟩ := zz
 refine pairTrees_nil_walk ?_
 k_dflt obtain ⟨ns, bZ, j, e, sk, rs, nd⟩ := S2.at p
 have hm := jr (G := G) e sk nd
 have hz : bZ.toList = [] := by cases hd : bZ.toList with | nil => rfl | cons => replace sk := hd ▸ sk; contradiction
 rw [hz] at hm
 refine display_done_str rfl (by simpa [strPairs] using iG) hm fun h' hd hs => ?_
 k_dflt obtain ⟨Bw, j', e', F0, hv, dg⟩ := ig hd
 have Kj := r1.keep (Step.az T2)
 have zz := S2.change (s' := { s2 with heap := h', toks := s2.toks + 2 }) (o' := .bj [(k1, y1), (k2, y2)]) p hs rfl rfl fun kk => by
  refine ⟨ns, Bw, j', e', F0, ?_, by simpa [strPairs] using iG⟩
  rw [hv]
  exact .cons (Kj.keep kk) (.one (r2.keep kk))
 exact .here (.raw _) zz.1 (((z.2.trans T1).trans T2).trans zz.2) q
noncomputable def dN : Int := reduceHash (Builtin.Tuple.tupleHashOf [hashInt 0, hashInt 0])
inductive zD (V : Addr -> Prop) (h : Heap) (v : Value) : Prop
 | mk (a key : Addr) (t t1 t2 : Tok) (k m : Nat) (e : v = .ref a) (hs : (a == sysModules) = false) (e1 : h.get? a = some { cls := .type "dict", data := .dict #[⟨dN, .ref key, .int 7 t⟩] k }) (n1 : ¬ V a) (e2 : h.get? key = some (cj [.int 0 t1, .int 0 t2] m)) (n2 : ¬ V key)
noncomputable def kc : AV := .dS {
 P := zD
 ref := fun V h v zz => (by obtain ⟨a, _, _, _, _, _, _, e, _⟩ := zz; exact ⟨a, e⟩)
 keep := fun V V' h h' v k zz => (by refine gF fun Z => ?_; obtain ⟨a, key, t, t1, t2, kk, m, e, ns, e1, n1, e2, n2⟩ := zz; exact Z (⟨a, key, t, t1, t2, kk, m, e, ns, (k _ _ e1 n1).1, (k _ _ e1 n1).2, (k _ _ e2 n2).1, (k _ _ e2 n2).2⟩))}
def mh {h : Heap} {key : Addr} {t1 t2 : Tok} {m : Nat} {prog : Program} {w : PySem.World} (e : h.get? key = some (cj [.int 0 t1, .int 0 t2] m)) : IsTupleKey (intKind prog w) h [0, 0] key := ⟨_, _, m, e, rfl, rfl, .cons rfl (.cons rfl .nil)⟩
theorem ke (prog : Program) (w : PySem.World) : (tupleKind (intKind prog w)).hash [0, 0] = dN := by
 show tupleKeyHash (intKind prog w) [0, 0] = _
 skip
 exact congrArg _ (congrArg _ rfl)
def GL {s : Shared} {a b e : Expr} {Q : Value -> Shared -> Prop} (he : .Dict [some a] [b] pos = e)
  (h : wpAny G.M A (evalPairs (pairTrees [some a] [b] env pos)) (fun vs ay => wpAny G.M A (storeAll s.heap.objs.size vs) (fun _ aW => Q (.ref s.heap.objs.size) aW) X ay) X { s with heap := s.heap.push { cls := .type "dict", data := .dict #[] } }) :
  wpAny G.M A (eval e env) Q X s := he ▸ wpAny_Dict_any rfl rfl (by simp) (by simp) h
set_option tactic.hygienic true in
def WE.DD {c1 c2 c3 : Nat} {k : Nat} {q1 q2 q3 q4 : Pos} (hR : aj A n) (q : Q kc Γ) :
  WE G A X env (.Dict [some (.Tuple [.Constant (.int 0) c1 q1, .Constant (.int 0) c2 q2] k q3)] [.Constant (.int 7) c3 q4] pos) Γ Q := .mk fun s S => by
 have z := S.alloc (s' := { s with heap := s.heap.push { cls := .type "dict", data := .dict #[] } }) (o' := .bj []) rfl rfl rfl fun k => ⟨fM S, #[], 0, Heap.get?_push_size _ rfl, .nil, .nil, .nil⟩
 generalize he : Expr.Dict _ _ _ = e
 refine GL he ?_
 have h1 : WE G A X env (.Tuple [.Constant (.int 0) c1 q1, .Constant (.int 0) c2 q2] k q3) ((s.heap.objs.size, .bj []) :: Γ) fun y ae => y = .tup [.int 0, .int 0] /\ ae = (s.heap.objs.size, .bj []) :: Γ :=
  WE.tuple (.cons (.int (.cons (.int (.nil ⟨short rfl, rfl, rfl⟩)))))
 refine pairTrees_cons_walk ((h1.go _ z.1).seq fun kv y pR s1 r1 S1 T1 ⟨ey, eg⟩ => wpAny_Constant_int (pairTrees_nil_walk ?_))
 subst ey; subst eg
 refine gF fun Z => ?_
 cases r1.inv with
 | @tup key vs m ek nk rs =>
  refine Z ?_; clear Z
  obtain ⟨v1, v2, rfl, i1, i2⟩ := rs.inv2
  have ri := i1.inv; clear i1; induction ri; have ri := i2.inv; clear i2; induction ri
  rename_i t1 t2
  show wpAny _ _ (storeAll _ [(_, _)]) _ _ _
  unfold storeAll
  rw [List.forIn_cons]
  have S2 := S1.toks (s1.toks + 1)
  k_dflt obtain ⟨ns, bZ, j, e, sk, HT, nd⟩ := S2.at .here
  have hz : bZ = #[] := by induction bZ with | mk l => cases sk; rfl
  subst hz
  refine wpAny_bind (wpAny_bind (wpAny_dictSet_heap (knd := tupleKind (intKind G.prog G.w)) (show A.units < cLine by have := hR.units; tm_at "o") (mh ek) (xs := []) ⟨_, #[], j, e, ⟨rfl, rfl, rfl⟩, rfl, rfl, (fun _ h => nomatch h), List.Pairwise.nil⟩ (fun h' hd hs => ?_) (Nat.zero_le _)))
  refine wpAny_pure (wpAny_pure ?_)
  k_dflt obtain ⟨o', HZ, GN, eo, ⟨H0, H2, H3⟩, ed, el, eh, en⟩ := hd
  have Kl : o' = { cls := .type "dict", data := .dict #[⟨dN, .ref key, .int 7 s1.toks⟩] GN } := by
   have : HZ = #[⟨dN, .ref key, .int 7 s1.toks⟩] := by induction HZ with | mk l => simpa [storedH, atKey, entryOfKey, ke] using el
   subst this
   induction o'; simp only at H0 H2 H3 ed; subst H0 H2 H3 ed; rfl
  subst Kl
  have zz := S2.change (s' := { s1 with heap := h', toks := s1.toks + 1 + ([0, 0] : List Int).length + 1 }) (o' := .obj _) .here hs rfl rfl fun kk => eo
  have w : ao ((s.heap.objs.size, bG.obj { cls := .type "dict", data := .dict #[⟨dN, .ref key, .int 7 s1.toks⟩] GN }) :: Γ) Γ := ao.drop (.refl Γ)
  have kk := zz.2.az _ _ ek nk
  have rr : Rep (bc G Γ) h' (.ref s.heap.objs.size) kc := .dS ⟨_, key, _, t1, t2, GN, m, rfl, ns, eo, jl zz.1, kk.1, fun q => kk.2 (q.imp id fun q => .tail _ q)⟩
  exact .here rr (w.sim zz.1) (((z.2.trans T1).trans zz.2).trans w.step) q
def vz {prog : Program} {w : PySem.World} {E : Value -> Shared -> Prop} {key : Addr} {t t1 t2 : Tok} {k m : Nat} {Q : Option Nat -> Shared -> Prop} (hu : A.units < cLine)
  (e1 : s.heap.get? a = some { cls := .type "dict", data := .dict #[⟨dN, .ref key, .int 7 t⟩] k }) (e2 : s.heap.get? key = some (cj [.int 0 t1, .int 0 t2] m)) (h : Q (some 0) s) : wpAny (model prog w) A (dictFind a (.ref key) dN) Q E s := by
 rw [<- ke prog w]
 refine wpAny_dictFind_heap (knd := tupleKind (intKind prog w)) (k := [0, 0]) (xs := [([0, 0], key, .int 7 t)]) hu (mh e2) e1 rfl (by simp [entryOfKey, ke]) (fun x hx => by cases List.mem_singleton.mp hx; exact mh e2) (by simp) (fun Km => absurd rfl (Km 0 (key, .int 7 t))) fun j p hj => ?_
 induction j with
 | zero => exact h
 | succ j => simp at hj
def tC {prog : Program} {w : PySem.World} {E : Value -> Shared -> Prop} {nm : String} {key : Addr} {t t1 t2 : Tok} {k m : Nat} {Q : Bool -> Shared -> Prop} (hu : A.units + 1 < cLine) (hS : (a == sysModules) = false)
  (e1 : s.heap.get? a = some { cls := .type "dict", data := .dict #[⟨dN, .ref key, .int 7 t⟩] k }) (e2 : s.heap.get? key = some (cj [.int 0 t1, .int 0 t2] m)) (h : Q true s) : wpAny (model prog w) A (Builtin.Dict.samePairs nm a a) Q E s := by
 delta Builtin.Dict.samePairs Builtin.Dict.showsAll
 rw [if_neg (show ¬ (a == sysModules) = true by rw [hS]; exact Bool.false_ne_true)]
 refine wpAny_bind (wpAny_pure (wpAny_bind (wpAny_pure ?_)))
 refine wpAny_bind (wpAny_dictEntries e1 rfl ?_)
 dsimp only
 refine wpAny_bind (wpAny_dictEntries e1 rfl ?_)
 rw [if_neg (by simp)]
 refine wpAny_bind (wpAny_dictEpoch e1 rfl ?_)
 refine wpAny_bind ?_
 rw [Std.Legacy.Range.forIn_eq_forIn_range']
 simp only [Std.Legacy.Range.size, List.size_toArray, List.length_cons, List.length_nil, Nat.sub_zero, Nat.add_sub_cancel, Nat.div_one]
 show wpAny _ _ (forIn [0] _ _) _ _ _
 rw [List.forIn_cons]
 refine wpAny_bind (wpAny_bind (wpAny_dictEntries e1 rfl ?_))
 skip
 refine wpAny_bind (wpAny_holding (wpAny_bind (vz (by tm_at "o") e1 e2 ?_)))
 refine wpAny_bind (wpAny_dictEntries e1 rfl ?_)
 refine wpAny_holding (SeqAt.EqAt.same (.int 7 t) _ _ _ _ ?_)
 skip
 refine wpAny_bind (wpAny_dictEpoch e1 rfl ?_)
 rw [if_neg (by simp)]
 refine wpAny_pure ?_
 show wpAny _ _ (forIn [] _ _) _ _ _
 rw [List.forIn_nil]
 exact wpAny_pure (wpAny_pure h)
def jz {prog : Program} {w : PySem.World} {E : Value -> Shared -> Prop} {Q : Value -> Shared -> Prop} (hT : s.TypeIs (.ref a) "dict") (hu : A.units < cLine)
  (hs : ∀ Q' : Bool -> Shared -> Prop, Q' true s -> wpAny (model prog w) A.in1 (Builtin.Dict.samePairs "dict.__ne__" a a) Q' E s) (h : Q (.bool false) s) : wpAny (model prog w) A (compareOp .NotEq (.ref a) (.ref a)) Q E s := by
 refine wpAny_richCompare_same_room (op := .NotEq) hT hT PySem.F.slot_dict_ne (wpAny_call_entry PySem.F.slot_dict_ne hT PySem.F.entry_dict_ne ?_ (PySem.F.args_dict_ne_2 _ _)) hu
 skip
 refine wpAny_bind ?_
 skip
 refine wpAny_bind (wpAny_notOrdered_dict hT ?_)
 skip
 refine wpAny_pure ?_
 refine wpAny_bind (wpAny_isInstance (T := "dict") hT PySem.F.sub_dict_dict ?_)
 skip
 refine wpAny_bind (wpAny_pure (wpAny_bind (wpAny_pure ?_)))
 refine wpAny_bind (hs _ ?_)
 refine wpAny_pure ⟨_, rfl, ?_, ?_⟩
 .exact fun x => nomatch x
 .exact h
noncomputable def dD (e : Addr) (x : AV) : AV := .dS {
 P := fun V h v => v = .ref e /\ Rep V h v x
 ref := fun V h v ⟨e, _⟩ => ⟨_, e⟩
 keep := fun V V' h h' v k ⟨e, r⟩ => ⟨e, r.keep k⟩ }
def WB.xy {e : Addr} (hR : aj A n) (q : Q (.raw (.bool false)) Γ) : WB G A X (compareOp .NotEq) Rep (dD e kc) (dD e kc) Γ Q := .mk fun s v w S rv rw => by
 cases rv.inv with
 | dS q1 =>
  cases rw.inv with
  | dS q2 =>
   obtain ⟨rfl, r1⟩ := q1
   obtain ⟨rfl, _⟩ := q2
   refine gF fun Z => ?_
   cases r1.inv with
   | dS q3 =>
    refine Z ?_; clear Z
    obtain ⟨a, key, t, t1, t2, k, m, e, ns, e1, n1, e2, n2⟩ := q3
    cases e
    have hu := hR.units
    refine jz ⟨_, e1, rfl⟩ (by tm_at "o") (fun Q' h => tC (by show A.units + 1 + 1 < cLine; tm_at "o") ns e1 e2 h) (.here (.raw _) S .refl q)
def WB.tD {e : Addr} (hR : aj A n) (q : Q (.raw (.bool false)) Γ) : WB G A X (compareOp .NotEq) Rep (dD e (ar G.w.params [])) (dD e (ar G.w.params [])) Γ Q := .mk fun s v w S rv rw => by
 cases rv.inv with
 | dS q1 =>
  cases rw.inv with
  | dS q2 =>
   obtain ⟨rfl, r1⟩ := q1
   obtain ⟨rfl, _⟩ := q2
   cases r1.inv with
   | dS q3 =>
    obtain ⟨a, bZ, k, e, ns, e1, n1, sk, _, _⟩ := q3
    cases e
    have hz : bZ = #[] := by cases bZ with | mk l => cases sk; rfl
    subst hz
    have hu := hR.units
    refine jz ⟨_, e1, rfl⟩ (by tm_at "o") (fun Q' h => ?_) (.here (.raw _) S .refl q)
    delta Builtin.Dict.samePairs Builtin.Dict.showsAll
    rw [if_neg (show ¬ (e == sysModules) = true by rw [ns]; exact Bool.false_ne_true)]
    refine wpAny_bind (wpAny_pure (wpAny_bind (wpAny_pure ?_)))
    refine wpAny_bind (wpAny_dictEntries e1 rfl ?_)
    skip
    refine wpAny_bind (wpAny_dictEntries e1 rfl ?_)
    rw [if_neg (by simp)]
    refine wpAny_bind (wpAny_dictEpoch e1 rfl ?_)
    refine wpAny_bind ?_
    rw [Std.Legacy.Range.forIn_eq_forIn_range']
    skip
    show wpAny _ _ (forIn [] _ _) _ _ _
    rw [List.forIn_nil]
    exact wpAny_pure (wpAny_pure h)
def WB.pow_int {i j : Int} (hn : 0 <= j) (GO : j <= 1000000) (ha : i.natAbs < 2 ^ 64) (q : Q (.int (i ^ j.toNat)) Γ) : WB G A X (binaryOp .Pow) Rep (.int i) (.int j) Γ Q := .mk fun s v w S rv rw => by
 apply Rep.dZ rv; intro t; apply Rep.dZ rw; intro t
 exact pow_int_small hn GO ha (.here (.int _ _) (S.toks _) (by exact (S.same (s' := { s with toks := s.toks + 1 }) rfl rfl rfl).2) q)
def WE.ident {ex : Expr} (h : WE G A X env ex Γ fun v pR => ∃ p, v = .dS p /\ ∀ a, Q (dD a v) pR) : WE G A X env ex Γ Q := .mk fun s S => by
 refine (h.go s S).seq fun u v pR s1 r S1 T1 zz => ?_
 obtain ⟨p, ev, q⟩ := zz
 subst ev
 have r0 := r
 have ri := r.inv; clear r; induction ri with
 | dS qq =>
  obtain ⟨a, rfl⟩ := p.ref _ _ _ qq
  have rr : Rep (bc G pR) s1.heap (.ref a) (dD a (.dS p)) := .dS ⟨rfl, r0⟩
  exact ⟨_, pR, rr, S1, T1, q a⟩
end
end
section
set_option backward.match.sparseCases false
noncomputable abbrev rG (names : List (Str × NameKind)) : Env := envX "" { kind := .function, names := names, isGenerator := false, isCoroutine := false } 0 0 .none []
noncomputable def Stores (L : Addr) : List Str -> List AV -> aa -> (aa -> Prop) -> Prop
 | x :: r, v :: vs, Γ, Q => jg L x v (fun Γ => Stores L r vs Γ Q) Γ
 | _, _, Γ, Q => Q Γ
section
variable {env : Env} {pos : Pos} {names : List (Str × NameKind)} {cl : List (Str × Addr)} {Γ ag ai ae R : aa} {s s' : Shared} {n : Nat} {a d L : Addr} {e : Expr} {ts vs : List Expr} {k k2 : Nat} {tp EH : Pos} {t : Expr}
def aA.swap (ok : aA env names L cl) (targets : List Expr) (v : Expr) : swappedStores targets v env = swappedStores targets v (rG names) := by
 have h1 : env.blockKind = (rG names).blockKind := by
  unfold Env.blockKind
  rw [ok.kind]
 have h2 : env.kindOf = (rG names).kindOf := by
  funext x
  show env.scope.names.lookup x = _
  rw [ok.hn]; rfl
 unfold swappedStores
 exact h1 ▸ h2 ▸ rfl
def W1.EI {Γ : aa} {Q : aN -> aa -> Prop} (ok : aA env names L cl) (h : WE G A X env e Γ (Fi G A X env t Q))
  (hs : swapsWithSole [t] e pos.line env = pure false) (hw : swappedStores [t] e (rG names) = pure none) (he : autoParam (assignEach [t] env = [(false, PySem.assign t env)]) aR) : W1 G A X env (.Assign [t] e pos) Γ Q :=
 W1.pz h hs ((ok.swap _ _).trans hw) he
def xA (ok : aA env names L cl) {Q : aa -> Prop} (nm : List Str) : ∀ (us : List Value) (xs : List AV) (Γ : aa) (s : Shared), (∀ x ∈ nm, (x, NameKind.local) ∈ names) -> aM G Γ s -> ah (bc G Γ) s.heap us xs -> nm.length = xs.length -> Stores L nm xs Γ Q ->
  Tr G A X (assignInOrder (nm.map fun n => bindName env n) us) (pq (γ := Unit)) Γ (fun _ => Q) s := by
 induction nm with
 | nil =>
  intro us xs Γ s _ S r hl q
  cases xs with
  | cons => contradiction
  | nil => apply ah.nh r; exact wpAny_pure (.here rfl S .refl q)
 | cons x nm ih =>
  intro us xs Γ s hn S r hl q
  cases xs with
  | nil => contradiction
  | cons v vs =>
   apply ah.iK r; intro u us r1 r2
   k_dflt cases q with | @mk m m' R p hm q => ?_
   skip
   refine wpAny_bind (wpAny_holding (wpAny_bindName ?_))
   refine (gL (A := A) (X := X) (Q := fun ae => ae = (L, .ns m') :: R) (ok.kindOf (hn x (.head _))) (by rw [ok.locals]; exact p) hm S r1 (by rw [ok.locals]) ok.kind).seq fun _ _ pR s1 _ S1 T1 e => ?_
   subst e
   exact (ih _ vs _ s1 (fun y hy => hn y (.tail _ hy)) S1 (r2.keep T1.az) (by simpa using hl) q).back T1
theorem ah.reverse {V : Addr -> Prop} {h : Heap} {us : List Value} {xs : List AV} (r : ah V h us xs) : ah V h us.reverse xs.reverse := by
 induction xs generalizing us with
 | nil => apply ah.nh r; exact .nil
 | cons x xs ih =>
  apply ah.iK r; intro v vs r1 rs; rw [List.reverse_cons, List.reverse_cons]; exact (ih rs).append (.one r1)
noncomputable def kg : List Expr -> List Str
 | .Name x _ :: r => x :: kg r
 | _ => []
def W1.DE {Q : aN -> aa -> Prop} (hR : aj A n) (ok : aA env names L cl) (hw : swappedStores [.Tuple ts k tp] (.Tuple vs k2 EH) (rG names) = pure (some (kg ts))) (hn : ((kg ts).all fun x => names.lookup x == some .local) = true)
  (h : ll G A X env vs Γ fun xs pR => xs.length = (kg ts).length /\ xs.length <= sizeLine /\ Stores L (kg ts).reverse xs.reverse pR (Q .next))
  (hs : autoParam (swapsWithSole [.Tuple ts k tp] (.Tuple vs k2 EH) pos.line env = pure false) aR) : W1 G A X env (.Assign [.Tuple ts k tp] (.Tuple vs k2 EH) pos) Γ Q := .mk fun s S => by
 generalize kg ts = nm at hw hn h
 have Fm : ∀ x ∈ nm, (x, NameKind.local) ∈ names := fun x hx => by
  have := List.all_eq_true.mp hn x hx
  exact mem_of_lookup (eq_of_beq this)
 have h1 : WE G A X env (.Tuple vs k2 EH) Γ fun y pR => ∃ xs, y = .tup xs /\ xs.length = nm.length /\ Stores L nm.reverse xs.reverse pR (Q .next) := WE.tuple (.mk fun pos s S => (h.go pos s S).mono fun xs pR zz => (by refine gF fun Z => ?_; obtain ⟨h1, h2, h3⟩ := zz; exact Z (⟨h2, xs, rfl, h1, h3⟩)))
 refine Assign_Tuple_swapped (names := nm) ((h1.go s S).seq fun v y pR s1 r S1 T1 zz => ?_) hs ((ok.swap _ _).trans hw)
 k_dflt obtain ⟨xs, ey, hl, q⟩ := zz
 subst ey
 refine gF fun Z => ?_
 cases r.inv with
 | @tup b us m e0 nv e =>
  refine Z ?_; clear Z
  have vd : us.toArray.size = nm.length := by rw [List.size_toArray, e.length, hl]
  rw [<- vd]
  refine unpackItems_tuple hR.handled (IsTup.of e0) fun h' he => ?_
  have z := S1.pn (s' := { s1 with heap := h' }) (bK _) he rfl rfl
  have r' := (e.keep z.2.az).reverse
  have := xA (G := G) (A := A) (X := X) ok (Q := fun ae => Q .next ae) nm.reverse us.reverse xs.reverse pR _ (fun x hx => Fm x (List.mem_reverse.mp hx)) z.1 r' (by rw [List.length_reverse, List.length_reverse, hl]) q
  exact wpAny_mono this (fun _ _ zz => (by obtain ⟨b, ae, rb, S2, T2, q2⟩ := zz; exact ⟨.next, ae, .next, S2, (T1.trans z.2).trans T2, q2⟩)) fun _ _ x => x
end
end
section
section
variable {Γ ag R : aa}
variable {f : Addr} {oc : Value} {od : Option Addr} {ng : Array (Option Value)} {name qual : Str} {params : Arguments} {body : List Stmt} {scope : Scope} {dV kV doc pm cV ct : Value} {an : Option Addr} {m cs : List (Str × Option AV)} {p1 p2 p3 p4 p5 : Str} {x1 x2 x3 x4 x5 : AV} {n : Nat} {Q : AV -> aa -> Prop}
def WC.DF
  (hK : G.K.lookup f = some ⟨oc, od, .func (fnOf name qual params body scope dV kV doc pm an cV ct), ng⟩) (gG : codeIn G.K cV qual = true) (hp : params.args.map (·.arg) = [p1, p2, p3]) (hR : aj A (n + 1))
  (hb : ∀ s v1 v2 v3, aM G Γ s -> BindsTo s (fnOf name qual params body scope dV kV doc pm an cV ct) ⟨[v1, v2, v3], []⟩ [(p1, v1), (p2, v2), (p3, v3)]) (hs : bz scope.names = true) (l : Lay scope.names [(p1, x1), (p2, x2), (p3, x3)] m cs)
  (h : ∀ L env A' X', aA env scope.names L (bD (L + 1) cs) -> aj A' n -> env.code = cV -> env.qual = qual ++ ".<locals>." -> WS G A' X' env body (aE (L + 1) cs ++ (L, .ns m) :: Γ) fun fl ae => Fin G Q (iH fl) ae)
  (iS : autoParam (scope.isCoroutine = false) aR) (cW : autoParam (scope.isGenerator = false) aR) (hk : autoParam (scope.kind = .function) aR) : WC G A X (.ref f) [x1, x2, x3] Γ Q :=
 have ⟨nd, nb⟩ := ew hs
 .jh (WF.fn (ns := [p1, p2, p3]) (ys := []) (ds := []) hK gG hR (fun s vs S hl => uZ.go (P := fun vs => BindsTo s _ ⟨vs, []⟩ ([p1, p2, p3].zip (vs ++ []))) (n := 3) (fun v1 v2 v3 => hb s v1 v2 v3 S) hl) (fun _ _ => .nil) rfl nd l (fun L R' => h L _ _ _ ⟨rfl, hk, nd, nb, rfl, rfl, rfl, fun x c hc => l.gO nd hc⟩ R' rfl rfl) iS cW hk)
def rH {env : Env} {names : List (Str × NameKind)} {L : Addr} {cl : List (Str × Addr)} (ok : aA env names L cl) {nm : Str} {k : NameKind} (h : (nm, k) ∈ names) (hk : (k == .globalExplicit) = false) {q : Str} (e : env.qual = q) : qualnameIn env nm nm = q ++ nm := by
 unfold qualnameIn
 rw [ok.kindOf h, if_neg (by simpa using hk), e]
end
end
section
section
variable {prog : Program} {w : PySem.World} {A : Around} {E : Value -> Shared -> Prop} {s : Shared}
def vA {it l : Addr} {items : Array Value} (iG : l ≠ it) : ∀ (n i : Nat) (s : Shared) (Q : List Value -> Shared -> Prop), s.heap.IsListIter it l i -> s.heap.IsList l items -> i + n <= items.size ->
  (∀ h', h'.IsListIter it l (i + n) -> Heap.SameBut it s.heap h' -> Q ((items.toList.drop i).take n) { s with heap := h' }) -> wpAny (model prog w) A (draw (.ref it) n) Q E s := by
 intro n; induction n with
 | zero =>
  intro i s Q hit _ _ hQ
  show wpAny _ _ (pure []) Q E s
  exact wpAny_pure (by simpa using hQ s.heap hit (Heap.SameBut.refl ..))
 | succ n ih =>
  intro i s Q hit hl hle hQ
  have j7 : i < items.size := by tm_at "o"
  skip
  refine wpAny_bind (wpAny_pyNext_list_item hit hl (x := items[i]) (by simp [j7]) fun bk tE rI => ?_)
  refine wpAny_bind (wpAny_holding (ih (i + 1) _ _ tE (hl.extBut rI.extBut iG) (by tm_at "o") fun gx BK DG => wpAny_pure ?_))
  have hd : items.toList.drop i = items[i] :: items.toList.drop (i + 1) := by simp [List.drop_eq_getElem_cons, j7]
  have := hQ gx (by rw [show i + (n + 1) = i + 1 + n by tm_at "o"]; exact BK) (rI.trans DG)
  rw [hd, List.take_succ_cons] at this
  exact this
def kh {l : Addr} {items : Array Value} {Q : List Value -> Shared -> Prop} (hh : A.handled = none) (hl : s.heap.IsList l items)
  (hQ : ∀ h', Heap.ExtBut s.heap.objs.size s.heap h' -> Q items.toList { s with heap := h' }) : wpAny (model prog w) A (unpackItems (.ref l) items.size none) Q E s := by
 have j7 : l ≠ s.heap.objs.size := by obtain ⟨o, ho, _⟩ := hl; exact Nat.ne_of_lt (Heap.lt_size ho)
 skip
 refine wpAny_bind ?_
 .skip
  refine wpAny_bind (wpAny_specialOf hl.typeIs slot_list_iter.lookup ?_)
  refine wpAny_pure ?_
  skip
  refine wpAny_bind (wpAny_holding (wpAny_pyIter_list hl ?_))
  refine wpAny_bind (wpAny_holding (vA j7 items.size 0 _ _ ⟨_, Heap.get?_push_size _ rfl, rfl, rfl⟩ (hl.push _) (by tm_at "o") fun bk tE rI => ?_))
  have tF : List.take items.size (List.drop 0 items.toList) = items.toList := by
   rw [List.drop_zero]; exact List.take_of_length_le (by simp)
  rw [tF]
  rw [if_neg (by simp)]
  have DH : bk.IsList l items := (hl.push _).extBut rI.extBut j7
  refine wpAny_bind (wpAny_holding (wpAny_pyNext_list_end hh tE DH (by simp) fun gx DI => ?_))
  skip
  exact wpAny_pure (hQ gx fun b o hb e => DI b o hb (rI.extBut b o hb (Heap.get?_push_of_some _ e)))
end
section
variable {env : Env} {pos : Pos} {Γ R : aa} {n : Nat}
def WA.GP {ts : List Expr} {k : Nat} {xs : List AV} {Q : aa -> Prop} (hR : aj A n) (hl : (assignEach ts env).length = xs.length) (FV : (assignEach ts env).findIdx? (·.1) = none)
  (h : Bu G A X env ts xs Γ Q) : WA G A X env (.Tuple ts k pos) (.lst xs) Γ Q := .mk fun s v S r => by
 apply Rep.uX r; intro a vs m e nv rs
 have vd : (assignEach ts env).length = vs.toArray.size := by rw [List.size_toArray, rs.length]; exact hl
 rw [assign_Tuple]
 refine wpAny_bind (wpAny_standAt ?_)
 unfold unpack
 refine vd ▸ FV ▸ ?_
 refine wpAny_bind (wpAny_holding (kh hR.handled (IsList.of e) fun h' he => ?_))
 have z := S.pn (s' := { s with heap := h' }) (bK _) he rfl rfl
 exact (h.go _ _ z.1 (rs.keep z.2.az)).back z.2
end
end
section
noncomputable def mi (xs ys : List AV) : List AV := List.zipWith (fun x y => .tup [x, y]) xs ys
theorem rJ : ∀ {xs ys : List AV} {k : Nat} {x : AV}, (mi xs ys)[k]? = some x -> ∃ a b, xs[k]? = some a /\ ys[k]? = some b /\ x = .tup [a, b]
 | [], _, _, _, h => by (dsimp only [mi] at h; simp at h)
 | _ :: _, [], _, _, h => by (dsimp only [mi] at h; simp at h)
 | a :: xs, b :: ys, 0, x, h => by
  (dsimp only [mi] at h; simp only [List.zipWith_cons_cons, List.getElem?_cons_zero, Option.some.injEq] at h)
  exact ⟨a, b, rfl, rfl, h.symm⟩
 | a :: xs, b :: ys, k + 1, x, h => by
  dsimp only [mi] at h ⊢
  exact rJ (xs := xs) (ys := ys) h
section
variable {env : Env} {pos : Pos} {Γ ag ai R : aa} {s s' : Shared} {n : Nat} {Q : AV -> aa -> Prop}
abbrev GQ (z TI TO i1 i2 l1 l2 : Addr) (xs ys : List AV) (i : Nat) (V : Addr -> Prop) (h : Heap) : Prop :=
 ∃ us ws, ZS h z TI TO i1 i2 l1 l2 i us ws .none (.bool false) /\ ¬ V l1 /\ ¬ V l2 /\ ah V h us xs /\ ah V h ws ys
def ZS.DK {h h' : Heap} {z TI TO i1 i2 l1 l2 : Addr} {k : Nat} {us ws : List Value} {f0 f1 : Value} (Z : ZS h z TI TO i1 i2 l1 l2 k us ws f0 f1) (hw : ∀ b ∈ [z, TI, TO, i1, i2], ∀ o, h.get? b = some o -> h'.get? b = some o)
  (h1 : ∀ o, h.get? l1 = some o -> h'.get? l1 = some o) (h2 : ∀ o, h.get? l2 = some o -> h'.get? l2 = some o) : ZS h' z TI TO i1 i2 l1 l2 k us ws f0 f1 :=
 ⟨Z.ap, hw z (by simp) _ Z.oz, hw TI (by simp) _ Z.oI, let ⟨a, b, e⟩ := Z.oO; ⟨a, b, hw TO (by simp) _ e⟩, Z.a1.keep (hw i1 (by simp)) h1, Z.a2.keep (hw i2 (by simp)) h2⟩
theorem fk.zip (hR : aj A n) {elts : List Expr} {x1 : Nat} {tp : Pos} {z TI TO i1 i2 l1 l2 : Addr} {xs ys : List AV} (hlen : xs.length = ys.length) :
  fk G A (.Tuple elts x1 tp) z [z, TI, TO, i1, i2] (mi xs ys) (GQ z TI TO i1 i2 l1 l2 xs ys) where
 keep := fun i V V' h h' ⟨us, ws, Z, n1, n2, r1, r2⟩ kk kw => by
  have e1 := Z.a1.there.2
  have e2 := Z.a2.there.2
  obtain ⟨o1, e1⟩ := e1
  obtain ⟨o2, e2⟩ := e2
  exact ⟨us, ws, Z.DK kw (fun o e => (kk _ _ e n1).1) (fun o e => (kk _ _ e n2).1), (kk _ _ e1 n1).2, (kk _ _ e2 n2).2, r1.keep kk, r2.keep kk⟩
 obj := fun i V h ⟨us, ws, Z, _⟩ b hb => by
  rcases List.mem_cons.mp hb with rfl | hb; exact ⟨_, Z.oz⟩
  rcases List.mem_cons.mp hb with rfl | hb; exact ⟨_, Z.oI⟩
  rcases List.mem_cons.mp hb with rfl | hb; exact let ⟨a, b, e⟩ := Z.oO; ⟨_, e⟩
  rcases List.mem_cons.mp hb with rfl | hb; exact Z.a1.there.1
  rcases List.mem_cons.mp hb with rfl | hb; exact Z.a2.there.1
  cases hb
 item := fun i x s V X P hx hw ha ⟨us, ws, Z, n1, n2, r1, r2⟩ hQ => by
  k_dflt obtain ⟨a, b, ea, eb, rfl⟩ := rJ hx
  obtain ⟨v, hv, rv⟩ := r1.get ea
  obtain ⟨w, BL, GR⟩ := r2.get eb
  have hT : s.TypeIs (.ref z) "zip" := ⟨_, Z.oz, rfl⟩
  have np : ∀ c, c ∉ [z, TI, TO, i1, i2] -> iY z TO i1 i2 c := fun c hc => ⟨fun q => hc (by simp [q]), fun q => hc (by simp [q]), fun q => hc (by simp [q]), fun q => hc (by simp [q])⟩
  skip
  refine wpAny_bind (wpAny_attempt (wpAny_callSpecial?_slot (name := oS "__next__") hT PySem.F.slot_zip_next (wpAny_call_entry PySem.F.slot_zip_next hT PySem.F.entry_zip_next ?_ (PySem.F.args_zip_next_1 _))))
  refine rt Z hv BL fun h' T Z' hp hn k => wpAny_pure ?_
  refine hQ _ h' s.toks (fun c o nc e => k c o (np c nc) e) fun Xg Pg hP => ?_
  refine PySem.wpAny_letOwnedTupleGo_zip (s := { s with heap := h' }) (TI := TI) (TO := TO) Z'.oz fun iD hz hs => ?_
  have Kn : T ≠ z := fun q => by replace hn := q ▸ hn; replace hn := Z.oz ▸ hn; contradiction
  have k2 : ∀ c o, c ∉ [z, TI, TO, i1, i2] -> s.heap.get? c = some o -> iD.get? c = some o := fun c o nc e => (hs.2 c (np c nc).1).trans (k c o (np c nc) e)
  have kV : fK V V s.heap iD := fun c o q nv => ⟨k2 c o (fun y => nv (hw c y)) q, nv⟩
  have fresh : ¬ V T := fun q => by obtain ⟨o, e⟩ := ha _ q; replace hn := e ▸ hn; contradiction
  refine hP iD s.toks k2 (.tup (vs := [v, w]) (n := 0) ((hs.2 _ Kn).trans hp) fresh (.cons (rv.keep kV) (.one (GR.keep kV)))) ?_
  refine ⟨us, ws, ⟨Z.ap, hz, (hs.2 _ Z.ap.TIz).trans Z'.oI, (by obtain ⟨a, b, e⟩ := Z'.oO; exact ⟨a, b, (hs.2 _ Z.ap.TOz).trans e⟩), Z'.a1.keep (fun o e => (hs.2 _ Z.ap.i1z).trans e) (fun o e => (hs.2 _ Z.ap.l1z).trans e), Z'.a2.keep (fun o e => (hs.2 _ Z.ap.i2z).trans e) (fun o e => (hs.2 _ Z.ap.l2z).trans e)⟩, n1, n2, r1.keep kV, r2.keep kV⟩
 done := fun s V X P ⟨us, ws, Z, n1, n2, r1, r2⟩ hQ => by
  have hz : (mi xs ys).length = xs.length := by (dsimp only [mi]; simp [hlen])
  rw [hz] at Z
  refine kJ hR.handled Z (.inl ⟨rfl, rfl⟩) (.inl (by rw [List.getElem?_eq_none_iff, r1.length]; exact Nat.le_refl _)) fun h' he => hQ h' s.toks fun c o nc e => he c o ⟨fun q => nc (by simp [q]), fun q => nc (by simp [q]), fun q => nc (by simp [q]), fun q => nc (by simp [q])⟩ e
 self := fun i s V X P ⟨us, ws, Z, _⟩ q => PySem.wpAny_pyIter_zip Z.oz q
theorem au.zip (hR : aj A n) {elts : List Expr} {x1 : Nat} {tp : Pos} {xs ys : List AV} {v : AV} (hlen : xs.length = ys.length) (hz : xq xs ys Γ v ag) : au G A (.Tuple elts x1 tp) 5 v ag (mi xs ys) Γ := fun s u X P S r h => by
 k_dflt obtain ⟨T1, N1, T2, N2, z, TI, TO, i1, i2, l1, l2, t1, t2, rfl, rfl⟩ := hz
 have ri := r.inv; clear r; cases ri with
 | dS q =>
  k_dflt obtain ⟨rfl, us, ws, n, m, e1, yL, r1, e2, yM, r2⟩ := q
  have zy : ∀ p ∈ aY [z, TI, TO, i1, i2] (gT N1 N2 TI TO i1 i2 l1 l2), ∃ o, p.2 = .obj o /\ s.heap.get? p.1 = some o := fun p hp => by
   have := S.own p (List.mem_append_left _ hp)
   rcases List.mem_cons.mp hp with rfl | hp; exact ⟨_, rfl, this⟩
   rcases List.mem_cons.mp hp with rfl | hp; exact ⟨_, rfl, this⟩
   rcases List.mem_cons.mp hp with rfl | hp; exact ⟨_, rfl, this⟩
   rcases List.mem_cons.mp hp with rfl | hp; exact ⟨_, rfl, this⟩
   rcases List.mem_cons.mp hp with rfl | hp; exact ⟨_, rfl, this⟩
   k_dflt cases hp
  have ap := og (T1 := T1) (T2 := T2) S yL yM
  have Z := ZS.HV t1 t2 ap zy e1 e2
  refine PySem.wpAny_pyIter_zip Z.oz ?_
  exact h z [z, TI, TO, i1, i2] (gT N1 N2 TI TO i1 i2 l1 l2) _ s rfl rfl (fk.zip hR hlen) S ⟨fun _ _ o e => ⟨o, e⟩, fun _ _ e _ => e, fun _ q => .inl q⟩ ⟨us, ws, Z, yL, yM, r1, r2⟩
def WB.item_last {o i : Expr} {a : Addr} {xs : List AV} {x : AV} (p : aC a (.list (xs ++ [x])) Γ R) (hz : xs.length < 2 ^ 62) (q : Q x Γ) (hi : autoParam (bS i = true) aR) :
  WB G A X (subscriptTail o i) Rep (.raw (.ref a)) (.int (-1)) Γ Q := .mk fun s v u S r ru => by
 apply Rep.dZ ru; intro t
 apply Rep.bX r
 k_dflt obtain ⟨vs, n, e, rs⟩ := S.at p
 have hl := rs.length
 rw [List.length_append, List.length_singleton] at hl
 obtain ⟨y, hy, ry⟩ := rs.get (show (xs ++ [x])[xs.length]? = some x by simp)
 exact tail_any (IsList.of e).typeIs slot_list_getitem.lookup (PySem.wpAny_getItem_list_neg (IsList.of e) (by tm_at "o") (by simp; tm_at "o") (by tm_at "o") (by
  have hz : ((-1 : Int) + (vs.toArray.size : Int)).toNat = xs.length := E6 hl
  rw [hz]; simpa using hy) (.here ry S .refl q)) (bT hi)
end
end
section
section
variable {Γ R P : aa} {e C a : Addr} {y : AV}
theorem Seen.cell (z : kL G P e y) (w : ao Γ ((C, .cell (some (.raw (.ref e)))) :: (P ++ R))) : Seen G Γ ((C, .cell (some y)) :: R) := by
 refine (Seen.weak w).trans ⟨fun s S => ?_, fun b hb => ?_⟩
 .have S1 : aM G (P ++ (C, .cell (some (.raw (.ref e)))) :: R) s := S.perm List.perm_middle.symm
  have r := z _ s S1
  have S2 : aM G ((C, .cell (some (.raw (.ref e)))) :: R) s := eA.sim S1
  obtain ⟨u, hc, hr⟩ := S2.own (C, .cell (some (.raw (.ref e)))) (.head _)
  refine S2.tw ⟨u, hc, ?_⟩
  cases u with
  | none => exact hr.elim
  | some u => apply Rep.bX hr; exact r
 .rcases List.mem_cons.mp hb with rfl | hb
  .exact .head _
  .refine .tail _ ?_
   have : b ∈ (P ++ R).map Prod.fst := by rw [List.map_append]; exact List.mem_append_right _ hb
   exact this
def Seen.rK {es : List (Str × AV)} (w : ao Γ ((C, .cell (some (.raw (.ref a)))) :: (a, .bj es) :: R)) : Seen G Γ ((C, .cell (some (ar G.w.params es))) :: R) := Seen.cell (P := [(a, .bj es)]) kL.dict w
end
end
section
section
variable {env : Env} {pos : Pos} {Γ ag R : aa} {s s' : Shared} {n : Nat} {Q : AV -> aa -> Prop}
def AK {o lo : Expr} {p : Pos} (h : WE G A X env o Γ fun x ag => WE G A X env lo ag fun i ai => AE Q i ai x)
  (ht : autoParam (sW o) aI) : WE G A X env (.Subscript o (.Slice Option.none (some lo) Option.none p) pos) Γ Q := .mk fun s S =>
 Subscript_ ((h.go s S).seq fun v x ag ay r ax aG bk => wpAny_Slice (by
  rw [evalPart_some, evalPart_none]
  refine wpAny_pure ((bk.go ay ax).seq fun i iv ai aW ri bp bx zz => wpAny_pure ?_)
  obtain ⟨a, e2, hz, q⟩ := zz
  subst e2
  have r' := r.keep bx.az
  cases ri.inv with | int t =>
  have ri := r'.inv; clear r'; cases ri with | @lst b vs k e nv rs =>
  have z := bp.push (s' := { aW with heap := aW.heap.push { cls := .type "slice", data := .fields #[.none, .int a t, .none] } }) rfl rfl rfl
  have cL : (aW.heap.push { cls := .type "slice", data := .fields #[.none, .int a t, .none] }).get? b = some (bW vs k) := Heap.get?_push_of_some _ e
  refine subscriptTail_ops (s := { aW with heap := aW.heap.push { cls := .type "slice", data := .fields #[.none, .int a t, .none] } }) (IsList.of cL).typeIs slot_list_getitem.lookup
   (PySem.wpAny_getItem_list_slice (IsList.of cL) (Heap.IsSliceOf.new ..) .none (.int _ _) .none (by simp) ?_ (by rw [List.size_toArray, rs.length]; exact hz)) rfl (ht _)
  have z2 := z.1.push (s' := { aW with heap := (aW.heap.push { cls := .type "slice", data := .fields #[.none, .int a t, .none] }).push { cls := .type "list", data := .seq (slicePick vs.toArray Option.none (some (a : Int)) Option.none) } }) rfl rfl rfl
  have hp : slicePick vs.toArray Option.none (some (a : Int)) Option.none = (vs.take a).toArray := by
   first | (rw [PySem.slicePick_upto']; simp) | (simp [slicePick_upto'])
  rw [hp] at z2 ⊢
  exact ⟨.lst (xs.take a), ai, .lst (vs := vs.take a) (n := 0) (Heap.get?_push_size _ rfl) (cJ z.1) ((rs.take a).keep (z.2.trans z2.2).az), z2.1, (aG.trans bx).trans (z.2.trans z2.2), q⟩))
end
end
section
open PySem PySem.W PyProof.Rows PySem.Calls PySem.Spec
def uw {a b : Nat} {r t : List Nat} : ltCps (a :: r) (b :: t) = false ↔ ¬ a < b /\ (a = b -> ltCps r t = false) := by
 simp only [ltCps, Bool.or_eq_false_iff, decide_eq_false_iff_not, Bool.and_eq_false_iff, beq_eq_false_iff_ne]
 constructor
 .rintro ⟨h1, h2⟩
  exact ⟨h1, fun e => h2.resolve_left fun n => n e⟩
 .rintro ⟨h1, h2⟩
  exact ⟨h1, (Decidable.em (a = b)).elim (fun e => .inr (h2 e)) .inl⟩
theorem ux : ∀ {a b : List Nat}, ltCps a b = false -> ltCps b a = false -> a = b
 | [], [], _, _ => rfl
 | [], _ :: _, h, _ => by simp [ltCps] at h
 | _ :: _, [], _, h => by simp [ltCps] at h
 | a :: r, b :: t, h, k => by
  rw [uw] at h k
  have e : a = b := by tm_at "o"
  exact e ▸ (ux (h.2 e) (k.2 e.symm)) ▸ rfl
theorem ou : ∀ {a b c : List Nat}, ltCps b a = false -> ltCps c b = false -> ltCps c a = false
 | [], _, [], _, _ => by simp [ltCps]
 | [], _, _ :: _, _, _ => by simp [ltCps]
 | _ :: _, [], _, h, _ => by simp [ltCps] at h
 | _ :: _, _ :: _, [], _, h => by simp [ltCps] at h
 | a :: r, b :: t, c :: u, h, k => by
  rw [uw] at h k ⊢
  exact ⟨by tm_at "o", fun e => by
   have e1 : b = a := by tm_at "o"
   have e2 : c = b := by tm_at "o"
   exact ou (h.2 e1) (k.2 e2)⟩
def GS (a b : Str) : Prop := ltCps b.cps.toList a.cps.toList = false
def tG : ∀ (r : List Str) (x : Str), risingS x r = true -> (x :: r).Pairwise GS := by
 intro r; induction r with
 | nil => intro x _; simp
 | cons y r ih =>
  intro x h
  simp only [risingS, Bool.and_eq_true, Bool.not_eq_true'] at h
  replace ih := ih y h.2
  refine List.Pairwise.cons (fun z hz => ?_) ih
  rcases List.mem_cons.mp hz with rfl | hz
  .exact h.1
  .exact ou h.1 (List.rel_of_pairwise_cons ih hz)
def kM {ss : List Str} (h : sortedS ss = true) : ss.Pairwise GS := by
 cases ss with
 | nil => exact .nil
 | cons x r => exact tG r x h
def mj {ss qL : List Str} (p : ss.Perm qL) (h : sortedS ss = true) (h' : sortedS qL = true) : ss = qL := by
 refine List.Perm.eq_of_pairwise (le := GS) (fun a b _ _ h1 h2 => ?_) (kM h) (kM h') p
 have := ux h2 h1
 cases a; cases b
 exact congrArg _ (Array.toList_inj.mp this)
end
section
set_option backward.match.sparseCases false
noncomputable abbrev NsMap := List (Str × Option AV)
noncomputable abbrev rL := List (Str × NameKind)
noncomputable def GU : ∀ k x : Str, Decidable (k = x)
 | ⟨⟨a⟩⟩, ⟨⟨b⟩⟩ => match List.hasDecEq a b with
  | .isTrue h => .isTrue (h ▸ rfl)
  | .isFalse h => .isFalse fun q => h (by injection q with q; injection q)
noncomputable def H4 : ∀ (m : NsMap) (x : Str), Option { v : AV // (x, some v) ∈ m }
 | [], _ => none
 | (k, o) :: r, x => match GU k x with
  | .isTrue h => (match o with
   | some v => some ⟨v, h ▸ .head _⟩
   | none => none)
  | .isFalse _ => match H4 r x with
   | some ⟨v, q⟩ => some ⟨v, .tail _ q⟩
   | none => none
noncomputable def EJ : ∀ (m : rL) (x : Str), Option { v : NameKind // (x, v) ∈ m }
 | [], _ => none
 | (k, v) :: r, x => match GU k x with
  | .isTrue h => some ⟨v, h ▸ .head _⟩
  | .isFalse _ => match EJ r x with
   | some ⟨v, q⟩ => some ⟨v, .tail _ q⟩
   | none => none
noncomputable def BM : ∀ (m : NsMap) (x : Str) (y : AV), Option { m' : NsMap // nZ m x y m' }
 | [], _, _ => none
 | (k, v) :: r, x, y => match GU k x with
  | .isTrue h => some ⟨(k, some y) :: r, h ▸ .here⟩
  | .isFalse _ => match BM r x y with
   | some ⟨m', q⟩ => some ⟨(k, v) :: m', .there q⟩
   | none => none
noncomputable def H5 (x : Str) : ∀ ys : List AV, Option { b : Bool // cM x ys = some b }
 | [] => some ⟨false, rfl⟩
 | .str y :: r => match H5 x r with
  | some ⟨b, h⟩ => if e : y = x then some ⟨true, by dsimp only [cM]; rw [h, decide_eq_true e]; rfl⟩ else some ⟨b, by dsimp only [cM]; rw [h, decide_eq_false e]; rfl⟩
  | none => none
 | _ :: _ => none
noncomputable def AL : ∀ v : AV, Option { b : Bool // v.isNone = b }
 | .raw .none => some ⟨true, rfl⟩
 | .raw (.bool _) => some ⟨false, rfl⟩
 | .int _ => some ⟨false, rfl⟩
 | .str _ => some ⟨false, rfl⟩
 | .tup _ => some ⟨false, rfl⟩
 | .lst _ => some ⟨false, rfl⟩
 | _ => none
section
variable (G : Base) (A : Around) (X : Value -> Shared -> Prop) (env : Env) (Γ : aa)
noncomputable abbrev PC (op : CmpOp) (v w : AV) := { b : Bool // ∀ Q : AV -> aa -> Prop, Q (.raw (.bool b)) Γ -> WB G A X (compareOp op) Rep v w Γ Q }
noncomputable abbrev PE (e : Expr) := { v : AV // ∀ Q : AV -> aa -> Prop, Q v Γ -> WE G A X env e Γ Q }
noncomputable abbrev Ko (es : List Expr) := { vs : List AV // (es.length = vs.length) /\ ∀ Q : List AV -> aa -> Prop, Q vs Γ -> ll G A X env es Γ Q }
noncomputable abbrev PT (e : Expr) := { b : Bool // ∀ Q : Bool -> aa -> Prop, Q b Γ -> WT G A X env e Γ Q }
noncomputable abbrev Kp (op : BoolOp) (es : List Expr) := { b : Bool // ∀ Q : Bool -> aa -> Prop, Q b Γ -> qJ G A X env op es Γ Q }
variable {G A X env Γ}
noncomputable def DL : ∀ (op : CmpOp) (v w : AV), Option (PC G A X Γ op v w)
 | .Eq, .str x, .str y => if h : x = y then some ⟨true, fun _ q => WB.eq_str (by rw [decide_eq_true h]; exact q)⟩ else some ⟨false, fun _ q => WB.eq_str (by rw [decide_eq_false h]; exact q)⟩
 | .NotEq, .str x, .str y => if h : x = y then some ⟨false, fun _ q => WB.ne_str (by rw [decide_eq_true h]; exact q)⟩ else some ⟨true, fun _ q => WB.ne_str (by rw [decide_eq_false h]; exact q)⟩
 | .Is, v, .raw .none => match AL v with
  | some ⟨b, h⟩ => some ⟨b, fun _ q => WB.is_none (h ▸ q)⟩
  | none => none
 | .IsNot, v, .raw .none => match AL v with
  | some ⟨true, h⟩ => some ⟨false, fun _ q => WB.isNot_none (by rw [h]; exact q)⟩
  | some ⟨false, h⟩ => some ⟨true, fun _ q => WB.isNot_none (by rw [h]; exact q)⟩
  | none => none
 | .In, .str x, .tup ys => match H5 x ys with
  | some ⟨b, h⟩ => some ⟨b, fun _ q => WB.pA h q⟩
  | none => none
 | _, _, _ => none
noncomputable def GV {o i : Expr} (hi : bS i = true) (xs : List AV) (k : Int) : Option { v : AV // ∀ Q : AV -> aa -> Prop, Q v Γ -> WB G A X (subscriptTail o i) Rep (.tup xs) (.int k) Γ Q } :=
 if h : -(2 ^ 63) <= k /\ k < 2 ^ 63 then match h1 : seqIndex? k xs.length with
  | some j => match h2 : xs[j]? with
   | some v => some ⟨v, fun _ q => WB.item_tup h.1 h.2 h1 h2 q hi⟩
   | none => none
  | none => none
 else none
section
variable {ns : rL} {m : NsMap} {L : Addr} {cl : List (Str × Addr)} {R : aa} (ok : aA env ns L cl) (p : aC L (.ns m) Γ R) (f : ∀ e, Option (PE G A X env Γ e)) (t : ∀ e, Option (PT G A X env Γ e))
noncomputable def CG : ∀ es, Option (Ko G A X env Γ es)
 | [] => some ⟨[], rfl, fun _ q => ll.nil q⟩
 | e :: r => if h : notStar e = true then match f e, CG r with
   | some ⟨v, a⟩, some ⟨vs, b⟩ => some ⟨v :: vs, congrArg (· + 1) b.1, fun _ q => ll.cons (a _ (b.2 _ q)) h⟩
   | _, _ => none
  else none
noncomputable def GW : ∀ op es, Option (Kp G A X env Γ op es)
 | .And, [] => some ⟨true, fun _ q => qJ.and_nil q⟩
 | .Or, [] => some ⟨false, fun _ q => qJ.or_nil q⟩
 | .And, e :: r => match t e with
  | some ⟨true, a⟩ => match GW .And r with
   | some ⟨b, c⟩ => some ⟨b, fun _ q => qJ.and (a _ (c _ q))⟩
   | none => none
  | some ⟨false, a⟩ => some ⟨false, fun _ q => qJ.and (a _ q)⟩
  | none => none
 | .Or, e :: r => match t e with
  | some ⟨false, a⟩ => match GW .Or r with
   | some ⟨b, c⟩ => some ⟨b, fun _ q => qJ.or (a _ (c _ q))⟩
   | none => none
  | some ⟨true, a⟩ => some ⟨true, fun _ q => qJ.or (a _ q)⟩
  | none => none
noncomputable def eP : ∀ e, Option (PE G A X env Γ e)
 | .Constant .none _ _ => some ⟨.raw .none, fun _ q => WE.none q⟩
 | .Constant (.bool b) _ _ => some ⟨.raw (.bool b), fun _ q => WE.bool q⟩
 | .Constant (.int i) _ _ => some ⟨.int i, fun _ q => WE.int q⟩
 | .Constant (.str x) _ _ => some ⟨.str x, fun _ q => WE.str q⟩
 | .Name x _ => match EJ ns x, H4 m x with
  | some ⟨.local, h⟩, some ⟨v, hv⟩ => some ⟨v, fun _ q => Nm.local ok h p hv q⟩
  | _, _ => none
 | .Tuple es _ _ => match CG f es with
  | some ⟨vs, a⟩ => if h : Nat.ble vs.length 100 = true then some ⟨.tup vs, fun _ q => WE.tuple (a.2 _ ⟨Nat.le_trans (Nat.le_of_ble_eq_true h) (by rw [sizeLine_eq]; decide), q⟩)⟩ else none
  | none => none
 | .Subscript o i _ => if h : bS i = true then match f o, f i with
   | some ⟨.tup xs, a⟩, some ⟨.int k, b⟩ => match GV (o := o) h xs k with
    | some ⟨v, c⟩ => some ⟨v, fun _ q => WE.item (a _ (b _ (c _ q)))⟩
    | none => none
   | some ⟨.lst xs, a⟩, some ⟨.int k, b⟩ => if hk : 0 <= k /\ k < 2 ^ 63 then match h2 : xs[k.toNat]? with
     | some v => some ⟨v, fun _ q => WE.item (a _ (b _ (WB.ij hk.1 hk.2 h2 q h)))⟩
     | none => none
    else none
   | _, _ => none
  else none
 | .UnaryOp .USub i _ => match f i with
  | some ⟨.int k, a⟩ => some ⟨.int (-k), fun _ q => WE.unary (a _ (WU.neg q))⟩
  | _ => none
 | .Compare l [op] [r] _ => if h : lK r = true then match f l, f r with
   | some ⟨v, a⟩, some ⟨w, b⟩ => match DL op v w with
    | some ⟨c, d⟩ => some ⟨.raw (.bool c), fun _ q => WE.compare (a _ (b _ (d _ q))) h⟩
    | none => none
   | _, _ => none
  else none
 | .IfExp e b o _ => match t e with
  | some ⟨true, a⟩ => match f b with
   | some ⟨v, c⟩ => some ⟨v, fun _ q => WE.Av (a _ (c _ q))⟩
   | none => none
  | some ⟨false, a⟩ => match f o with
   | some ⟨v, c⟩ => some ⟨v, fun _ q => WE.Av (a _ (c _ q))⟩
   | none => none
  | none => none
 | _ => none
noncomputable def tP (e : Expr) : Option (PT G A X env Γ e) := match e with
 | .Compare l [op] [r] _ => if h : lK r = true then match f l, f r with
   | some ⟨v, a⟩, some ⟨w, b⟩ => match DL op v w with
    | some ⟨c, d⟩ => some ⟨c, fun _ q => WT.compare (a _ (b _ (d _ q))) h⟩
    | none => none
   | _, _ => none
  else none
 | .UnaryOp .Not i _ => match t i with
  | some ⟨true, a⟩ => some ⟨false, fun _ q => WT.not' (a _ q)⟩
  | some ⟨false, a⟩ => some ⟨true, fun _ q => WT.not' (a _ q)⟩
  | none => none
 | .BoolOp op es _ => match GW t op es with
  | some ⟨b, a⟩ => some ⟨b, fun _ q => WT.Bd (a _ q)⟩
  | none => none
 | e => if h : jY e = true then match f e with
   | some ⟨.raw (.bool true), a⟩ => some ⟨true, fun _ q => WT.val (a _ q) h⟩
   | some ⟨.raw (.bool false), a⟩ => some ⟨false, fun _ q => WT.val (a _ q) h⟩
   | _ => none
  else none
noncomputable def vB : Nat -> (∀ e, Option (PE G A X env Γ e)) × (∀ e, Option (PT G A X env Γ e))
 | 0 => (fun _ => none, fun _ => none)
 | n + 1 => (eP ok p (vB n).1 (vB n).2, tP (vB n).1 (vB n).2)
end
end
section
variable {env : Env} {ns : rL} {L : Addr} {cl : List (Str × Addr)} {R : aa}
abbrev GX (G : Base) (A : Around) (X : Value -> Shared -> Prop) (env : Env) (o : Option AV) (ss : List Stmt) (Q : aN -> aa -> Prop) (Γ : aa) : Prop := match o with | none => WS G A X env ss Γ Q | some v => Q (.ret v) Γ
noncomputable abbrev PS (G : Base) (A : Around) (X : Value -> Shared -> Prop) (env : Env) (L : Addr) (R : aa) (m : NsMap) (ss : List Stmt) := { z : Option AV × NsMap // ∀ (r : List Stmt) (Q : aN -> aa -> Prop), GX G A X env z.1 r Q ((L, .ns z.2) :: R) -> WS G A X env (ss ++ r) ((L, .ns m) :: R) Q }
noncomputable def AM (ok : aA env ns L cl) : Nat -> ∀ (m : NsMap) (ss : List Stmt), Option (PS G A X env L R m ss)
 | 0, _, _ => none
 | _, m, [] => some ⟨(none, m), fun _ _ q => q⟩
 | n + 1, m, s :: r => match s with
  | .Assign [.Name x p] e _ => if h : px (.Name x p) e = true then match EJ ns x, (vB (A := A) (X := X) ok (.here (Γ := R)) 30).1 e with
    | some ⟨.local, hx⟩, some ⟨v, a⟩ => match BM m x v with
     | some ⟨m', hm⟩ => match AM ok n m' r with
      | some ⟨z, c⟩ => some ⟨z, fun _ _ q => WS.cons (W1.assign (a _ (St.local ok hx .here hm (c _ _ q))) h)⟩
      | none => none
     | none => none
    | _, _ => none
   else none
  | .If t b o _ => match (vB (A := A) (X := X) ok (.here (Γ := R) (o := .ns m)) 30).2 t with
   | some ⟨true, a⟩ => match AM ok n m b with
    | some ⟨(none, m'), c⟩ => match AM ok n m' r with
     | some ⟨z, d⟩ => some ⟨z, fun _ _ q => WS.cons (W1.if (a _ (List.append_nil b ▸ c [] _ (WS.nil (d _ _ q)))))⟩
     | none => none
    | some ⟨(some v, m'), c⟩ => some ⟨(some v, m'), fun _ _ q => WS.cons (W1.if (a _ (List.append_nil b ▸ c [] _ q)))⟩
    | none => none
   | some ⟨false, a⟩ => match AM ok n m o with
    | some ⟨(none, m'), c⟩ => match AM ok n m' r with
     | some ⟨z, d⟩ => some ⟨z, fun _ _ q => WS.cons (W1.if (a _ (List.append_nil o ▸ c [] _ (WS.nil (d _ _ q)))))⟩
     | none => none
    | some ⟨(some v, m'), c⟩ => some ⟨(some v, m'), fun _ _ q => WS.cons (W1.if (a _ (List.append_nil o ▸ c [] _ q)))⟩
    | none => none
   | none => none
  | .Return (some e) _ => match (vB (A := A) (X := X) ok (.here (Γ := R) (o := .ns m)) 30).1 e with
   | some ⟨v, a⟩ => some ⟨(some v, m), fun _ _ q => WS.cons (W1.ret (a _ q))⟩
   | none => none
  | .Pass _ => match AM ok n m r with
   | some ⟨z, c⟩ => some ⟨z, fun _ _ q => WS.cons (W1.pass (c _ _ q))⟩
   | none => none
  | _ => none
noncomputable abbrev PG (G : Base) (A : Around) (X : Value -> Shared -> Prop) (env : Env) (L : Addr) (R : aa) (m : NsMap) (ss : List Stmt) := { z : Option AV × NsMap × List Stmt // ∀ Q : aN -> aa -> Prop, GX G A X env z.1 z.2.2 Q ((L, .ns z.2.1) :: R) -> WS G A X env ss ((L, .ns m) :: R) Q }
noncomputable def DM (ok : aA env ns L cl) : ∀ (ss : List Stmt) (m : NsMap), Option (PG G A X env L R m ss)
 | [], m => some ⟨(none, m, []), fun _ q => q⟩
 | s :: r, m => match AM ok 30 m [s] with
  | some ⟨(none, m'), a⟩ => match DM ok r m' with
   | some ⟨z, b⟩ => some ⟨z, fun _ q => a r _ (b _ q)⟩
   | none => none
  | some ⟨(some v, m'), a⟩ => some ⟨(some v, m', []), fun _ q => a r _ q⟩
  | none => some ⟨(none, m, s :: r), fun _ q => q⟩
noncomputable def Kq (ok : aA env ns L cl) (m : NsMap) : ∀ (ss : List Stmt), Option (PG G A X env L R m ss)
 | [] => none
 | s :: r => match AM ok 30 m [s] with
  | some ⟨(none, m'), a⟩ => match DM ok r m' with
   | some ⟨z, b⟩ => some ⟨z, fun _ q => a r _ (b _ q)⟩
   | none => none
  | some ⟨(some v, m'), a⟩ => some ⟨(some v, m', []), fun _ q => a r _ q⟩
  | none => none
end
noncomputable def nF {α : Type} {P : α -> Prop} : Option { x : α // P x } -> Option α
 | some ⟨x, _⟩ => some x
 | none => none
def ej {α : Type} {P : α -> Prop} {o : Option { x : α // P x }} {x : α} (h : nF o = some x) : P x := by
 cases o with
 | none => contradiction
 | some z => obtain rfl := Option.some.inj h; exact z.2
section
variable {env : Env} {pos fp : Pos} {Γ R : aa} {ns : rL} {m : NsMap} {L : Addr} {cl : List (Str × Addr)} {f : Str} {v : Value}
def Ks {ns : rL} {x : Str} {k : NameKind} (h : nF (EJ ns x) = some k) : (x, k) ∈ ns := ej (P := fun v => (x, v) ∈ ns) h
def H6 {m m' : NsMap} {x : Str} {y : AV} (h : nF (BM m x y) = some m') : nZ m x y m' := ej (P := fun v => nZ m x y v) h
theorem WE.pure (ok : aA env ns L cl) (p : aC L (.ns m) Γ R) {e : Expr} {v : AV} (h : nF ((vB (G := G) (A := A) (X := X) ok p 30).1 e) = some v) {Q : AV -> aa -> Prop} (q : Q v Γ) : WE G A X env e Γ Q := ej h _ q
theorem WT.pure (ok : aA env ns L cl) (p : aC L (.ns m) Γ R) {e : Expr} {v : Bool} (h : nF ((vB (G := G) (A := A) (X := X) ok p 30).2 e) = some v) {Q : Bool -> aa -> Prop} (q : Q v Γ) : WT G A X env e Γ Q := ej h _ q
theorem ll.pure (ok : aA env ns L cl) (p : aC L (.ns m) Γ R) {e : List Expr} {v : List AV} (h : nF (CG (vB (G := G) (A := A) (X := X) ok p 30).1 e) = some v) {Q : List AV -> aa -> Prop} (q : Q v Γ) : ll G A X env e Γ Q := (ej h).2 _ q
def WS.run (ok : aA env ns L cl) (p : aC L (.ns m) Γ R) {ss qL : List Stmt} {m' : NsMap} {o : Option AV} (h : nF (Kq (G := G) (A := A) (X := X) (R := R) ok m ss) = some (o, m', qL)) {Q : aN -> aa -> Prop} (q : GX G A X env o qL Q ((L, .ns m') :: R)) : WS G A X env ss Γ Q :=
 (ej h _ q).weak (ao.pick p (ao.refl _))
def WE.DN (t : aX G f v) (ok : aA env ns L cl) (hf : (f, .globalImplicit) ∈ ns) (p : aC L (.ns m) Γ R) {es : List Expr} {xs : List AV} (h : nF (CG (vB (G := G) (A := A) (X := X) ok p 30).1 es) = some xs)
  {Q : AV -> aa -> Prop} (q : WC G A X v xs Γ Q) (hp : autoParam (b7 es = true) aU) : WE G A X env (.Call (.Name f fp) es [] pos) Γ Q :=
 .FJ t ok hf (ll.pure ok p h q) hp
abbrev DP (G : Base) (A : Around) (X : Value -> Shared -> Prop) (env : Env) (r : List Stmt) (Q : aN -> aa -> Prop) (Γ : aa) : Prop := WS G A X env r Γ Q
abbrev GY (G : Base) (A : Around) (X : Value -> Shared -> Prop) (env : Env) (L : Addr) (x : Str) (r : List Stmt) (Q : aN -> aa -> Prop) (y : AV) (Γ : aa) : Prop := jg L x y (DP G A X env r Q) Γ
def WS.H7 (t : aX G f v) (ok : aA env ns L cl) (hf : (f, .globalImplicit) ∈ ns) (p : aC L (.ns m) Γ R) {x : Str} (hx : (x, .local) ∈ ns) {np ap : Pos} {es : List Expr} {xs : List AV} (h : nF (CG (vB (G := G) (A := A) (X := X) ok p 30).1 es) = some xs)
  {r : List Stmt} {Q : aN -> aa -> Prop} (q : WC G A X v xs Γ (GY G A X env L x r Q)) (hp : autoParam (b7 es = true) aU) : WS G A X env (.Assign [.Name x np] (.Call (.Name f fp) es [] pos) ap :: r) Γ Q :=
 WS.cons (W1.assign (WE.DN t ok hf p h (.mk fun s vs S rr => (q.go s vs S rr).mono fun y ae z => by
  cases z with | mk p' hm q => exact St.local ok hx p' hm q) hp) rfl)
def WS.Kt (t : aX G f v) (ok : aA env ns L cl) (hf : (f, .globalImplicit) ∈ ns) (p : aC L (.ns m) Γ R) {ap : Pos} {es : List Expr} {xs : List AV} (h : nF (CG (vB (G := G) (A := A) (X := X) ok p 30).1 es) = some xs)
  {r : List Stmt} {Q : aN -> aa -> Prop} (q : WC G A X v xs Γ (CT Q)) (hp : autoParam (b7 es = true) aU) : WS G A X env (.Return (some (.Call (.Name f fp) es [] pos)) ap :: r) Γ Q :=
 WS.cons (W1.ret (WE.DN t ok hf p h q hp))
end
end
section
structure Ok (G : Base) : Prop where
 K : G.K = O.K G.w.params
 mb : ∀ x : Str, x ≠ "__name__" -> G.mb x = bootBuiltins x
section
def Ok.in (ok : Ok G) : G.K.In G.h := fun a o e => (G.iC a o e).1
theorem Ok.mg (ok : Ok G) {x : Str} {v : Value} (e : nsIn (O.K G.w.params) mainGlobals x = some (some v)) : G.mg x = some v := mg_of ok.in G.Ba (by rw [ok.K]; exact e)
def Ok.BN (ok : Ok G) {x : Str} (e : nsIn (O.K G.w.params) mainGlobals x = some none) : G.mg x = none := mg_none_of ok.in G.Ba (by rw [ok.K]; exact e)
theorem Ok.k1 (ok : Ok G) {f : Addr} {o : Option Obj} (h : (O.K G.w.params).lookup f = o) : G.K.lookup f = o := ok.K ▸ h
theorem Ok.k2 (ok : Ok G) {c : Value} {q : Str} (h : codeIn (O.K G.w.params) c q = true) : codeIn G.K c q = true := ok.K ▸ h
noncomputable def kx (d : DictEntry) : Str := match d.key with
 | .str x _ => x
 | _ => default
noncomputable abbrev et (P : Params) : List DictEntry := (O.es P).drop 9
def Ku (P : Params) : ((et P).map fun d => nsIn (O.K P) mainGlobals (kx d)) = (et P).map fun d => some (some d.val) := by kernel_rfl
noncomputable def bl : List (Str × Value) := [("len", .builtin "len"), ("tuple", .type "tuple"), ("list", .type "list"), ("dict", .type "dict"), ("str", .type "str"), ("int", .type "int"), ("zip", .type "zip"), ("enumerate", .type "enumerate"), ("range", .type "range"), ("max", .builtin "max"), ("sorted", .builtin "sorted"), ("isinstance", .builtin "isinstance"), ("Exception", .type "Exception")]
def Kv (P : Params) : (bl.map fun p => (nsIn (O.K P) mainGlobals p.1, bootBuiltins p.1, decide (p.1 = oS "__name__"))) = bl.map fun p => (some none, some p.2, false) := by kernel_rfl
noncomputable def RR : Type := Option (Str × Value × Bool)
noncomputable def eo (P : Params) (i : Nat) : RR := (et P)[i]?.map fun d => (kx d, d.val, keepIn (O.K P) d.val)
noncomputable def rr (x : Str) (v : Value) : RR := some (x, v, true)
noncomputable def bo (i : Nat) : RR := bl[i]?.map fun p => (p.1, p.2, true)
def xB {α β : Type} {f g : α -> β} {l : List α} (h : l.map f = l.map g) {i : Nat} {d : α} (e : l[i]? = some d) : f d = g d := by
 have z := congrArg (·[i]?) h
 simp only [List.getElem?_map, e] at z
 exact Option.some.inj z
noncomputable def rf (x : Str) (v : Value) : RR := some (x, v, false)
def Ok.GZ (ok : Ok G) {i : Nat} {x : Str} {v : Value} {b : Bool} (h : eo G.w.params i = some (x, v, b)) : G.mg x = some v /\ keepIn (O.K G.w.params) v = b := by
 obtain ⟨d, e, q⟩ := Option.map_eq_some_iff.mp h
 have q1 := (Prod.mk.inj q).1
 have q2 := Prod.mk.inj (Prod.mk.inj q).2
 rw [<- q1, <- q2.1, <- q2.2]
 exact ⟨ok.mg (xB (Ku _) e), rfl⟩
def Ok.CH (ok : Ok G) (i : Nat) {x : Str} {v : Value} (h : autoParam (eo G.w.params i = rf x v) aK) : G.mg x = some v := (ok.GZ h).1
def Ok.tp (ok : Ok G) (i : Nat) {x : Str} {v : Value} (h : autoParam (eo G.w.params i = rr x v) aK) : aX G x v :=
 ⟨.inl (ok.GZ h).1, fun _ => .of_K (by rw [ok.K]; exact (ok.GZ h).2)⟩
def Ok.bi (ok : Ok G) {i : Nat} {x : Str} {v : Value} (h : bo i = rr x v) : G.mg x = none /\ G.mb x = some v := by
 obtain ⟨d, e, q⟩ := Option.map_eq_some_iff.mp h
 rw [<- (Prod.mk.inj q).1, <- (Prod.mk.inj (Prod.mk.inj q).2).1]
 have z := xB (Kv G.w.params) e
 exact ⟨ok.BN (Prod.mk.inj z).1, (ok.mb _ (of_decide_eq_false (Prod.mk.inj (Prod.mk.inj z).2).2)).trans (Prod.mk.inj (Prod.mk.inj z).2).1⟩
def Ok.bu (ok : Ok G) (i : Nat) {x : Str} {n : String} (h : autoParam (bo i = rr x (.builtin n)) aK) : aX G x (.builtin n) := ⟨.inr (ok.bi h), fun _ => .builtin⟩
def Ok.ty (ok : Ok G) (i : Nat) {x : Str} {n : String} (h : autoParam (bo i = rr x (.type n)) aK) : aX G x (.type n) := ⟨.inr (ok.bi h), fun _ => .type⟩
def kN (ok : Ok G) : aX G (oS "LendError") (Value.ref 39) := ok.tp 1
def pS (ok : Ok G) : aX G (oS "TraitFault") (Value.ref 52) := ok.tp 2
def cX (ok : Ok G) : aX G (oS "parts_of") (Value.ref 167) := ok.tp 15
def ip (ok : Ok G) : aX G (oS "rebuilt") (Value.ref 174) := ok.tp 16
def dJ (ok : Ok G) : aX G (oS "substituted") (Value.ref 179) := ok.tp 17
def cB (ok : Ok G) : aX G (oS "with_regions") (Value.ref 184) := ok.tp 18
def kO (ok : Ok G) : aX G (oS "no_region") (Value.ref 191) := ok.tp 19
def mn (ok : Ok G) : aX G (oS "erased") (Value.ref 198) := ok.tp 20
def nG (ok : Ok G) : aX G (oS "region_text") (Value.ref 205) := ok.tp 21
def kP (ok : Ok G) : aX G (oS "type_text") (Value.ref 210) := ok.tp 22
def pT (ok : Ok G) : aX G (oS "field_rows") (Value.ref 224) := ok.tp 24
def kQ (ok : Ok G) : aX G (oS "fields_of") (Value.ref 229) := ok.tp 25
def tH (ok : Ok G) : aX G (oS "has_drop") (Value.ref 236) := ok.tp 26
def jA (ok : Ok G) : aX G (oS "needs_drop") (Value.ref 241) := ok.tp 27
def lq (ok : Ok G) : G.mg (oS "DROP_generics") = some (Value.str (oS "Drop") 524) := ok.CH 28
def xC (ok : Ok G) : aX G (oS "key_of") (Value.ref 246) := ok.tp 29
def nH (ok : Ok G) : aX G (oS "param_names") (Value.ref 251) := ok.tp 30
def jB (ok : Ok G) : aX G (oS "substitution_of") (Value.ref 258) := ok.tp 31
def pU (ok : Ok G) : aX G (oS "closed_ref") (Value.ref 263) := ok.tp 32
def mq (ok : Ok G) : aX G (oS "resolved_ref") (Value.ref 268) := ok.tp 33
def rM (ok : Ok G) : aX G (oS "drop_impl") (Value.ref 275) := ok.tp 34
def pV (ok : Ok G) : aX G (oS "Body") (Value.ref 336) := ok.tp 35
def pW (ok : Ok G) : aX G (oS "place_type") (Value.ref 361) := ok.tp 38
def ki (ok : Ok G) : G.mg (oS "MOST_INSTANCES") = some (Value.int 400 692) := ok.CH 39
def pX (ok : Ok G) : G.mg (oS "MOST_PARTS") = some (Value.int 120 694) := ok.CH 40
def fU (ok : Ok G) : aX G (oS "plain_type") (Value.ref 368) := ok.tp 41
def cT (ok : Ok G) : aX G (oS "plain_operand") (Value.ref 375) := ok.tp 42
def fw (ok : Ok G) : aX G (oS "plain_operands") (Value.ref 380) := ok.tp 43
def mu (ok : Ok G) : aX G (oS "plain_rvalue") (Value.ref 387) := ok.tp 44
def jC (ok : Ok G) : aX G (oS "plain_statement") (Value.ref 394) := ok.tp 45
def jD (ok : Ok G) : aX G (oS "want_small") (Value.ref 401) := ok.tp 46
def rN (ok : Ok G) : aX G (oS "Instances") (Value.ref 449) := ok.tp 47
def nI (ok : Ok G) : aX G (oS "inner_types") (Value.ref 458) := ok.tp 48
def kR (ok : Ok G) : aX G (oS "instances") (Value.ref 465) := ok.tp 49
def DQ (ok : Ok G) : aX G (oS "Adt") (Value.ref 484) := ok.tp 50
def DR (ok : Ok G) : aX G (oS "Sig") (Value.ref 505) := ok.tp 51
def zE (ok : Ok G) : aX G (oS "World") (Value.ref 534) := ok.tp 52
def rO (ok : Ok G) : aX G (oS "_law_pool") (Value.ref 545) := ok.tp 53
def eT (ok : Ok G) : aX G (oS "_law_take") (Value.ref 552) := ok.tp 54
def mw (ok : Ok G) : aX G (oS "_law_one") (Value.ref 559) := ok.tp 55
def fV (ok : Ok G) : G.mg (oS "_law_int") = some (Value.ref 560) := ok.CH 56
def gV (ok : Ok G) : G.mg (oS "_law_bool") = some (Value.ref 561) := ok.CH 57
def dP (ok : Ok G) : G.mg (oS "_law_unit") = some (Value.ref 563) := ok.CH 58
def fb (ok : Ok G) : aX G (oS "_law_struct") (Value.ref 570) := ok.tp 59
def kS (ok : Ok G) : aX G (oS "_law_text") (Value.ref 575) := ok.tp 60
def my (ok : Ok G) : aX G (oS "_law_key") (Value.ref 580) := ok.tp 61
def fc (ok : Ok G) : aX G (oS "_law_closed") (Value.ref 585) := ok.tp 62
def gW (ok : Ok G) : aX G (oS "_law_has_box") (Value.ref 590) := ok.tp 63
def eU (ok : Ok G) : aX G (oS "_law_drawn_type") (Value.ref 597) := ok.tp 64
def nJ (ok : Ok G) : aX G (oS "_law_locals") (Value.ref 602) := ok.tp 65
def rP (ok : Ok G) : aX G (oS "_law_rows") (Value.ref 607) := ok.tp 66
def nK (ok : Ok G) : aX G (oS "_law_bodies") (Value.ref 612) := ok.tp 67
def kT (ok : Ok G) : aX G (oS "_law_main") (Value.ref 617) := ok.tp 68
def jE (ok : Ok G) : aX G (oS "_law_world") (Value.ref 622) := ok.tp 69
def jF (ok : Ok G) : aX G (oS "_law_body_right") (Value.ref 627) := ok.tp 70
def jG (ok : Ok G) : aX G (oS "_law_is_refused") (Value.ref 634) := ok.tp 71
def gy (ok : Ok G) : aX G (oS "_law_refusals_right") (Value.ref 639) := ok.tp 72
def iP (ok : Ok G) : aX G (oS "len") (.builtin "len") := ok.bu 0
def iq (ok : Ok G) : aX G (oS "tuple") (.type "tuple") := ok.ty 1
def mz (ok : Ok G) : aX G (oS "list") (.type "list") := ok.ty 2
def mA (ok : Ok G) : aX G (oS "dict") (.type "dict") := ok.ty 3
def AN (ok : Ok G) : aX G (oS "str") (.type "str") := ok.ty 4
def AO (ok : Ok G) : aX G (oS "int") (.type "int") := ok.ty 5
def uy (ok : Ok G) : aX G (oS "zip") (.type "zip") := ok.ty 6
def kX (ok : Ok G) : aX G (oS "enumerate") (.type "enumerate") := ok.ty 7
def jH (ok : Ok G) : aX G (oS "range") (.type "range") := ok.ty 8
def DS (ok : Ok G) : aX G (oS "max") (.builtin "max") := ok.bu 9
def xD (ok : Ok G) : aX G (oS "sorted") (.builtin "sorted") := ok.bu 10
def pY (ok : Ok G) : aX G (oS "isinstance") (.builtin "isinstance") := ok.bu 11
def rQ (ok : Ok G) : aX G (oS "Exception") (.type "Exception") := ok.ty 12
end
section
def Ok.k3 (ok : Ok G) {C : Addr} {x : Str} (h : fO (O.K G.w.params) C x = true) : fO G.K C x = true := ok.K ▸ h
def Ok.k4 (ok : Ok G) {C : Addr} {x : Str} (h : fN (O.K G.w.params) C x = true) : fN G.K C x = true := ok.K ▸ h
def Ok.k5 (ok : Ok G) {v : Value} {x : Str} {r : Option (Option Value)} (h : findIn (O.K G.w.params) v x = r) : findIn G.K v x = r := ok.K ▸ h
def Ok.k6 (ok : Ok G) {v : Value} {r : Option Value} (h : typeIn (O.K G.w.params) v = r) : typeIn G.K v = r := ok.K ▸ h
def Ok.k7 (ok : Ok G) {C f : Addr} {x : Str} (h : pI (O.K G.w.params) C x f = true) : pI G.K C x f = true := ok.K ▸ h
def Ok.k8 (ok : Ok G) {C : Addr} {x : Str} (h : cP (O.K G.w.params) C x = true) : cP G.K C x = true := ok.K ▸ h
end
end
set_option genInjectivity false
section
variable {Γ : aa} {Q : AV -> aa -> Prop} {n : Nat}
section
inductive Ty where
 | i (n : Str)
 | bool
 | par (n : Str)
 | ref (r : Option Str) (m : Bool) (t : Ty)
 | box (t : Ty)
 | arr (t : Ty) (n : Int)
 | dj
 | dq (t : Ty)
 | bP (t u : Ty)
 | bU (r : Option Str) (t : Ty)
noncomputable abbrev dr := Option Str
noncomputable def eM : Option Str -> AV
 | none => .raw .none
 | some x => .str x
noncomputable def enc : Ty -> AV
 | .i n => .tup [.str (oS "int"), .str n]
 | .bool => .tup [.str (oS "bool")]
 | .par n => .tup [.str (oS "param"), .str n]
 | .ref r m t => .tup [.str (oS "ref"), eM r, .raw (.bool m), enc t]
 | .box t => .tup [.str (oS "box"), enc t]
 | .arr t n => .tup [.str (oS "array"), enc t, .int n]
 | .dj => .tup [.str (oS "tuple"), .tup []]
 | .dq t => .tup [.str (oS "tuple"), .tup [enc t]]
 | .bP t u => .tup [.str (oS "tuple"), .tup [enc t, enc u]]
 | .bU r t => .tup [.str (oS "adt"), .str (oS "G"), .tup [eM r], .tup [enc t]]
noncomputable def parts : Ty -> List Ty
 | .i _ => []
 | .bool => []
 | .par _ => []
 | .ref r m t => [t]
 | .box t => [t]
 | .arr t n => [t]
 | .dj => []
 | .dq t => [t]
 | .bP t u => [t, u]
 | .bU r t => [t]
noncomputable def ht : Ty -> Nat
 | .i _ => 0
 | .bool => 0
 | .par _ => 0
 | .ref r m t => ht t + 1
 | .box t => ht t + 1
 | .arr t n => ht t + 1
 | .dj => 0
 | .dq t => ht t + 1
 | .bP t u => max (ht t) (ht u) + 1
 | .bU r t => ht t + 1
def cq {T t : Ty} (h : t ∈ parts T) : ht t < ht T := by
 cases T <;> (dsimp only [parts] at h; simp only [List.mem_cons, List.not_mem_nil, or_false] at h) <;> (first | (subst h; exact Nat.lt_succ_self _) | (rcases h with rfl | rfl <;> (show _ < max _ _ + 1) <;> tm_at "o"))
def mB {P : Ty -> Prop} (h : ∀ T, (∀ t ∈ parts T, P t) -> P T) (T : Ty) : P T := by
 have : ∀ k T, ht T <= k -> P T := by
  intro k
  induction k with
  | zero => intro T hT; exact h T fun t cL => absurd (cq cL) (by tm_at "o")
  | succ k ih => intro T hT; exact h T fun t cL => ih t (by have := cq cL; tm_at "o")
 exact this _ T (Nat.le_refl _)
def cg (T : Ty) : (parts T).length <= sizeLine := by cases T <;> exact short rfl
noncomputable def gz : List (Str × Ty) -> Str -> Option Ty
 | [], _ => none
 | (k', z) :: r, k => if k' = k then some z else gz r k
noncomputable def bF (tab : List (Str × Ty)) : List (Str × AV) := tab.map fun p => (p.1, enc p.2)
theorem pZ : ∀ (tab : List (Str × Ty)) (k : Str), bH (bF tab) k = (gz tab k).map enc
 | [], _ => rfl
 | (k', z) :: r, k => by
  show (if k' = k then some (enc z) else bH (bF r) k) = Option.map enc (if k' = k then some z else gz r k)
  rw [pZ r k]
  split <;> rfl
noncomputable def p6 : Ty -> List Ty -> Ty
 | .ref r m _, [t] => .ref r m t
 | .box _, [t] => .box t
 | .arr _ n, [t] => .arr t n
 | .dq _, [t] => .dq t
 | .bP _ _, [t, u] => .bP t u
 | .bU r _, [t] => .bU r t
 | T, _ => T
noncomputable def bh (tab : List (Str × Ty)) : Ty -> Ty
 | .i v => .i v
 | .bool => .bool
 | .par n => (gz tab n).getD (.par n)
 | .ref r m t => .ref r m (bh tab t)
 | .box t => .box (bh tab t)
 | .arr t n => .arr (bh tab t) n
 | .dj => .dj
 | .dq t => .dq (bh tab t)
 | .bP t u => .bP (bh tab t) (bh tab u)
 | .bU r t => .bU r (bh tab t)
noncomputable def gA (f : Option Str -> Option Str) : Ty -> Ty
 | .i v => .i v
 | .bool => .bool
 | .par v => .par v
 | .ref r m t => .ref (f r) m (gA f t)
 | .box t => .box (gA f t)
 | .arr t n => .arr (gA f t) n
 | .dj => .dj
 | .dq t => .dq (gA f t)
 | .bP t u => .bP (gA f t) (gA f u)
 | .bU r t => .bU (f r) (gA f t)
def mC {α β γ : Type} (e : β -> γ) (f : α -> β) (ts : List α) : ts.map (fun t => e (f t)) = (ts.map f).map e := by simp
noncomputable def tag : Ty -> Str
 | .i n => (oS "int")
 | .bool => (oS "bool")
 | .par n => (oS "param")
 | .ref r m t => (oS "ref")
 | .box t => (oS "box")
 | .arr t n => (oS "array")
 | .dj => (oS "tuple")
 | .dq t => (oS "tuple")
 | .bP t u => (oS "tuple")
 | .bU r t => (oS "adt")
theorem WB.tag {o i : Expr} {T : Ty} (q : Q (.str (Mine.tag T)) Γ) (hi : autoParam (bS i = true) aR) : WB G A X (subscriptTail o i) Rep (enc T) (.int 0) Γ Q := by
 cases T <;> exact WB.item_tup (by decide) (by decide) (by rfl) (by rfl) q hi
def zF {T : Ty} (h : tag T = (oS "param")) : ∃ n, T = .par n := by cases T <;> first | exact ⟨_, rfl⟩ | (dsimp only [tag] at h; exact absurd h (by decide))
def zG {T : Ty} (h : tag T = (oS "ref")) : ∃ r m t, T = .ref r m t := by cases T <;> first | exact ⟨_, _, _, rfl⟩ | (dsimp only [tag] at h; exact absurd h (by decide))
def uz {T : Ty} (h : tag T = (oS "adt")) : ∃ r t, T = .bU r t := by cases T <;> first | exact ⟨_, _, rfl⟩ | (dsimp only [tag] at h; exact absurd h (by decide))
def rR (tab : List (Str × Ty)) {T : Ty} (h : tag T ≠ (oS "param")) : p6 T ((parts T).map (bh tab)) = bh tab T := by cases T <;> first | rfl | exact absurd rfl h
def rS (f : Option Str -> Option Str) {T : Ty} (h : tag T ≠ (oS "ref")) (h' : tag T ≠ (oS "adt")) : p6 T ((parts T).map (gA f)) = gA f T := by cases T <;> first | rfl | exact absurd rfl h | exact absurd rfl h'
def dt (ok : Ok G) (hR : aj A (n + 1)) (T : Ty) (q : Q (.tup ((parts T).map enc)) Γ) : WC G A X (.ref 167) [enc T] Γ Q := by
 tm_at "def1"
 cases T <;> dsimp only [enc]
 all_goals tm_at "v"
 all_goals exact Fin.mk (by tm_at "w") q
def iu (ok : Ok G) (hR : aj A (n + 1)) (T : Ty) (ps : List Ty) (hl : ps.length = (parts T).length) (q : Q (enc (p6 T ps)) Γ) : WC G A X (.ref 174) [enc T, .lst (ps.map enc)] Γ Q := by
 have b := iq ok
 tm_at "def2"
 rcases ps with _ | ⟨t, _ | ⟨u, _ | ⟨_, _⟩⟩⟩ <;> cases T <;> (dsimp only [parts] at hl; simp at hl)
 all_goals dsimp only [enc, List.map]
 all_goals tm_at "v"
 all_goals try (refine WC.ei (short rfl) ?_; tm_at "v")
 all_goals exact Fin.mk (by tm_at "w") q
theorem gX (ok : Ok G) (tab : List (Str × Ty)) (T : Ty) : ∀ {A X Γ Q}, aj A (ht T + 3) -> Q (enc (bh tab T)) Γ -> WC G A X (.ref 179) [enc T, ar G.w.params (bF tab)] Γ Q := by
 have gp := cX ok
 have gs := dJ ok
 have gr := ip ok
 induction T using mB with | h T ih => ?_
 intro A X Γ Q hR q
 tm_at "def2"
 by_cases hp : tag T = (oS "param")
 .obtain ⟨nm, rfl⟩ := zF hp
  dsimp only [enc]
  tm_at "v"
  refine WM.get .d8 ?_
  tm_at "v"
  refine WC.Bs .d8 (Fin.mk (ae := Γ) (by tm_at "w") ?_)
  rw [pZ]
  dsimp only [bh] at q
  generalize gz tab _ = z at q ⊢
  cases z <;> exact q
 .tm_at "v"
  (refine WE.aP Ty 1 [oS "part"] [(oS ".0", .local), (oS "part", .local), (oS "substituted", .globalImplicit), (oS "table", .cell)] _ ‹_› (by kernel_rfl) (by tm_at "dk") (by tm_at "dk") (by tm_at "lent") (by tm_at "dm") (by tm_at "dk") ?_)
  tm_at "v"
  refine dt ok (by tm_at "r") _ (aL.fn (e' := fun t => enc (bh tab t)) (au.seq ‹_› rfl) (cg _) (fun X' aF D C acc dC t cp => ?_) ?_)
  .tm_at "turn"
   intro I o
   have j7 := cq cp
   tm_at "v"
   exact ih t cp (by tm_at "r") (by tm_at "endturn")
  .tm_at "v"
   rw [mC enc (bh tab)]
   rw [<- rR tab hp] at q
   exact iu ok (by tm_at "r") _ _ (by rw [List.length_map]) (Fin.mk (by tm_at "w") q)
structure H8 (G : Base) (cv : Value) (f : Option Str -> Option Str) (H : aa -> Prop) : Prop where
 up : ∀ e Γ, H Γ -> H (e :: Γ)
 keeps : ∀ Γ, H Γ -> Keeps G cv Γ
 go : ∀ Γ A X Q r, H Γ -> aj A 1 -> Q (eM (f r)) Γ -> WC G A X cv [eM r] Γ Q
def vC (ok : Ok G) (hR : aj A (n + 1)) {x : AV} (q : Q (.raw .none) Γ) : WC G A X (.ref 191) [x] Γ Q := by
 tm_at "def1"
 tm_at "v"
 tm_at "fq"
def xE (ok : Ok G) : H8 G (.ref 191) (fun _ => none) (fun _ => True) := ⟨fun _ _ _ => trivial, fun _ _ => (kO ok).k _, fun Γ A X Q r _ hR q => vC (n := 0) ok hR q⟩
theorem p7 (ok : Ok G) {cv : Value} {f : Option Str -> Option Str} {H : aa -> Prop} (hc : H8 G cv f H) (T : Ty) : ∀ {A X Γ Q}, H Γ -> aj A (ht T + 3) -> Q (enc (gA f T)) Γ -> WC G A X (.ref 184) [enc T, .raw cv] Γ Q := by
 have gp := cX ok
 have gs := cB ok
 have gr := ip ok
 have bt := iq ok
 induction T using mB with | h T ih => ?_
 intro A X Γ Q hH hR q
 tm_at "def2"
 by_cases hr : tag T = (oS "ref")
 .obtain ⟨r, m, t, rfl⟩ := zG hr
  dsimp only [enc]
  tm_at "v"
  refine ⟨hc.keeps _ (hc.up _ _ (hc.up _ _ hH)), hc.go _ _ _ _ _ (hc.up _ _ (hc.up _ _ hH)) (by tm_at "r") ?_⟩
  tm_at "v"
  (refine WE.aP Ty 1 [oS "part"] [(oS ".0", .local), (oS "part", .local), (oS "with_regions", .globalImplicit), (oS "change", .cell)] _ ‹_› (by kernel_rfl) (by tm_at "dk") (by tm_at "dk") (by tm_at "lent") (by tm_at "dm") (by tm_at "dk") ?_)
  tm_at "v"
  refine dt ok (by tm_at "r") (.ref (f r) m t) (aL.fn (ts := parts (.ref (f r) m t)) (e' := fun t => enc (gA f t)) (au.seq ‹_› rfl) (cg _) (fun X' aF D C acc dC t cp => ?_) ?_)
  .tm_at "turn"
   intro I o
   have j7 := cq (T := .ref r m _) cp
   tm_at "v"
   exact ih t cp (hc.up _ _ (hc.up _ _ (hc.up _ _ (hc.up _ _ (hc.up _ _ hH))))) (by tm_at "r") (by tm_at "endturn")
  .tm_at "v"
   exact iu ok (by tm_at "r") (.ref (f r) m t) [gA f t] (by rfl) (Fin.mk (by tm_at "w") q)
 by_cases ha : tag T = (oS "adt")
 .obtain ⟨r, t, rfl⟩ := uz ha
  dsimp only [enc]
  tm_at "v"
  (refine WE.aP dr 1 [oS "region"] [(oS ".0", .local), (oS "region", .local), (oS "change", .cell)] _ ‹_› (by kernel_rfl) (by tm_at "dk") (by tm_at "dk") (by tm_at "lent") (by tm_at "dm") (by tm_at "dk") ?_)
  tm_at "v"
  refine aL.fn (ts := [r]) (e := eM) (e' := fun r => eM (f r)) (au.seq ‹_› rfl) (short rfl) (fun X' aF D C acc dC r' LB => ?_) ?_
  .tm_at "turn"
   intro I o
   tm_at "v"
   exact ⟨hc.keeps _ (hc.up _ _ (hc.up _ _ (hc.up _ _ (hc.up _ _ (hc.up _ _ hH))))), hc.go _ _ _ _ _ (hc.up _ _ (hc.up _ _ (hc.up _ _ (hc.up _ _ (hc.up _ _ hH))))) (by tm_at "r") (by tm_at "endturn")⟩
  tm_at "v"
  refine WC.ei (short rfl) ?_
  tm_at "v"
  (refine WE.aP Ty 1 [oS "part"] [(oS ".0", .local), (oS "part", .local), (oS "with_regions", .globalImplicit), (oS "change", .cell)] _ ‹_› (by kernel_rfl) (by tm_at "dk") (by tm_at "dk") (by tm_at "lent") (by tm_at "dm") (by tm_at "dk") ?_)
  tm_at "v"
  refine dt ok (by tm_at "r") (.bU (f r) t) (aL.fn (ts := parts (.bU (f r) t)) (e' := fun t => enc (gA f t)) (au.seq ‹_› rfl) (cg _) (fun X' aF D C acc dC t cp => ?_) ?_)
  .tm_at "turn"
   intro I o
   have j7 := cq (T := .bU r _) cp
   tm_at "v"
   exact ih t cp (hc.up _ _ (hc.up _ _ (hc.up _ _ (hc.up _ _ (hc.up _ _ hH))))) (by tm_at "r") (by tm_at "endturn")
  .tm_at "v"
   exact iu ok (by tm_at "r") (.bU (f r) t) [gA f t] (by rfl) (Fin.mk (by tm_at "w") q)
 .tm_at "v"
  (refine WE.aP Ty 1 [oS "part"] [(oS ".0", .local), (oS "part", .local), (oS "with_regions", .globalImplicit), (oS "change", .cell)] _ ‹_› (by kernel_rfl) (by tm_at "dk") (by tm_at "dk") (by tm_at "lent") (by tm_at "dm") (by tm_at "dk") ?_)
  tm_at "v"
  refine dt ok (by tm_at "r") T (aL.fn (ts := parts T) (e' := fun t => enc (gA f t)) (au.seq ‹_› rfl) (cg _) (fun X' aF D C acc dC t cp => ?_) ?_)
  .tm_at "turn"
   intro I o
   have j7 := cq cp
   tm_at "v"
   exact ih t cp (hc.up _ _ (hc.up _ _ (hc.up _ _ (hc.up _ _ (hc.up _ _ hH))))) (by tm_at "r") (by tm_at "endturn")
  .tm_at "v"
   rw [mC enc (gA f)]
   rw [<- rS f hr ha] at q
   exact iu ok (by tm_at "r") _ _ (by rw [List.length_map]) (Fin.mk (by tm_at "w") q)
noncomputable def bB : Ty -> Ty := gA fun _ => none
def erased (ok : Ok G) (T : Ty) {m : Nat} (hR : aj A (m + 1)) (hm : ht T + 3 <= m) (q : Q (enc (bB T)) Γ) : WC G A X (.ref 198) [enc T] Γ Q := by
 have gs := cB ok
 have gn := kO ok
 tm_at "def1"
 tm_at "v"
 exact p7 ok (xE ok) T trivial (by tm_at "r") (Fin.mk (by tm_at "w") q)
end
section
noncomputable def aq : Ty -> Str
 | .i n => n
 | .bool => (oS "bool")
 | .par n => n
 | .ref _ m t => if m then (oS "&mut ") ++ aq t else (oS "&") ++ aq t
 | .box t => (oS "Box<") ++ aq t ++ (oS ">")
 | .arr t n => (oS "[") ++ aq t ++ (oS "; ") ++ oS (toString n) ++ (oS "]")
 | .dj => oS "()"
 | .dq t => oS "(" ++ aq t ++ oS ",)"
 | .bP t u => oS "(" ++ aq t ++ (oS ", ") ++ aq u ++ oS ")"
 | .bU _ t => (oS "G<") ++ aq t ++ (oS ">")
noncomputable def isPlain : Ty -> Bool
 | .i n => PyData.strOk n
 | .bool => true
 | .par n => PyData.strOk n
 | .ref r _ t => r.isNone && isPlain t
 | .box t => isPlain t
 | .arr t n => decide (0 <= n /\ n < 10) && isPlain t
 | .dj => true
 | .dq t => isPlain t
 | .bP t u => isPlain t && isPlain u
 | .bU r t => r.isNone && isPlain t
def rT (ok : Ok G) (hR : aj A (n + 1)) (q : Q (.str (oS "")) Γ) : WC G A X (.ref 205) [.raw .none] Γ Q := by
 tm_at "def1"
 tm_at "v"
 tm_at "fq"
def eV {T t : Ty} (h : isPlain T = true) (ht : t ∈ parts T) : isPlain t = true := by
 cases T <;> (dsimp only [parts] at ht; simp only [List.mem_cons, List.not_mem_nil, or_false] at ht) <;> (dsimp only [isPlain] at h; try simp only [Bool.and_eq_true] at h) <;> (first | (subst ht; first | exact h.2 | exact h) | (rcases ht with rfl | rfl; exact h.1; exact h.2))
def a6 {x y : Str} (hx : PyData.strOk x = true) (hy : PyData.strOk y = true) : PyData.strOk (x ++ y) = true := by
 unfold PyData.strOk at *
 rw [show (x ++ y).cps = x.cps ++ y.cps from rfl, Array.all_append, hx, hy]; rfl
def xF {n : Int} (h : 0 <= n /\ n < 10) : PyData.strOk (oS (toString n)) = true := by
 obtain ⟨k, rfl⟩ := Int.eq_ofNat_of_zero_le h.1
 exact (show ∀ k : _root_.Fin 10, PyData.strOk (oS (toString (k.val : Int))) = true by decide+kernel) ⟨k, Int.ofNat_lt.mp h.2⟩
def p8 {T : Ty} (h : isPlain T = true) : PyData.strOk (aq T) = true := by
 induction T with
 | i n => exact h
 | par n => exact h
 | bool => decide +kernel
 | ref r m t ih =>
  (dsimp only [isPlain] at h; simp only [Bool.and_eq_true] at h)
  cases m
  .exact a6 (by tm_at "dk") (ih h.2)
  .exact a6 (by tm_at "dk") (ih h.2)
 | box t ih => exact a6 (a6 (by tm_at "dk") (ih h)) (by tm_at "dk")
 | arr t n ih =>
  (dsimp only [isPlain] at h; simp only [Bool.and_eq_true, decide_eq_true_eq] at h)
  exact a6 (a6 (a6 (a6 (by tm_at "dk") (ih h.2)) (by tm_at "dk")) (xF h.1)) (by tm_at "dk")
 | dj => decide +kernel
 | dq t ih => exact a6 (a6 (by tm_at "dk") (ih h)) (by tm_at "dk")
 | bP t u zH oy =>
  (dsimp only [isPlain] at h; simp only [Bool.and_eq_true] at h)
  exact a6 (a6 (a6 (a6 (by tm_at "dk") (zH h.1)) (by tm_at "dk")) (oy h.2)) (by tm_at "dk")
 | bU r t ih =>
  (dsimp only [isPlain] at h; simp only [Bool.and_eq_true] at h)
  exact a6 (a6 (by tm_at "dk") (ih h.2)) (by tm_at "dk")
noncomputable def leaf : Ty -> Bool
 | .i _ => true
 | .bool => true
 | .par _ => true
 | .ref _ _ _ => false
 | .box _ => false
 | .arr _ _ => false
 | .dj => false
 | .dq _ => false
 | .bP _ _ => false
 | .bU _ _ => false
def tI {T : Ty} (h : leaf T = true) : (∃ n, T = .i n) \/ T = .bool \/ ∃ n, T = .par n := by cases T <;> first | exact .inl ⟨_, rfl⟩ | exact .inr (.inl rfl) | exact .inr (.inr ⟨_, rfl⟩) | cases h
def vD {T : Ty} (h : ¬ leaf T = true) : tag T ≠ (oS "int") /\ tag T ≠ (oS "param") /\ tag T ≠ (oS "bool") /\ tag T ≠ (oS "never") /\ tag T ≠ (oS "var") /\ tag T ≠ (oS "intvar") := by
 cases T <;> first | exact absurd rfl h | (dsimp only [tag]; decide)
def iZ {T t : Ty} (h : t ∈ parts T) : (aq t).length + 4 <= (aq T).length + 4 := by
 cases T <;> (dsimp only [parts] at h; simp only [List.mem_cons, List.not_mem_nil, or_false] at h) <;> (first | subst h | rcases h with rfl | rfl) <;> dsimp only [aq] <;> (try split) <;> simp only [Str.length_append] <;> tm_at "o"
def iI {P : Prop} {b : Bool} (h : b = true) (e : autoParam (b = false) aR) : P := absurd (e.symm.trans h) Bool.false_ne_true
def DT {a b : Nat} (h : a + b <= 2000000) : a + b <= sizeLine := Nat.le_trans h (by decide)
theorem LC : (oS "").length = 0 := rfl
theorem LD : (oS "&").length = 1 := rfl
theorem ln2 : (oS "&mut ").length = 5 := rfl
theorem LF : (oS "mut ").length = 4 := rfl
theorem LG : (oS "Box<").length = 4 := rfl
theorem LH : (oS ">").length = 1 := rfl
theorem LJ : (oS "<").length = 1 := rfl
theorem LK : (oS "[").length = 1 := rfl
theorem LL : (oS "]").length = 1 := rfl
theorem LM : (oS "(").length = 1 := rfl
theorem ln10 : (oS ")").length = 1 := rfl
theorem Kw : (oS ",)").length = 2 := rfl
theorem Kx : (oS ", ").length = 2 := rfl
theorem Ky : (oS "; ").length = 2 := rfl
theorem Kz : (oS "G").length = 1 := rfl
theorem KA : (oS "G<").length = 2 := rfl
theorem KC : (oS "()").length = 2 := rfl
def eW {x : Str} {ts : List Str} (h : (ts.map (·.length)).sum + ts.length * x.length <= 2000000) : JoinOk x ts = true := by
 unfold JoinOk
 rw [StrLaws.joinTotal]
 show (!decide ((ts.map (·.length)).sum + ts.length * x.length > sizeLine)) = true
 have e := sizeLine_eq
 rw [decide_eq_false (by tm_at "o")]; rfl
def iw (x : Str) : x ++ oS "" = x := Str.append_empty x
theorem vE (ok : Ok G) (T : Ty) : ∀ {A X Γ Q}, isPlain T = true -> (aq T).length <= 1000000 -> aj A (ht T + 3) -> Q (.str (aq T)) Γ -> WC G A X (.ref 210) [enc T] Γ Q := by
 have gp := cX ok
 have gt := kP ok
 have gr := nG ok
 have bl := iP ok
 have bs := AN ok
 induction T using mB with | h T ih => ?_
 intro A X Γ Q hp hl hR q
 tm_at "def1"
 by_cases G0 : leaf T = true
 .rcases tI G0 with ⟨nm, rfl⟩ | rfl | ⟨nm, rfl⟩ <;> dsimp only [enc]
  all_goals tm_at "v"
  all_goals exact Fin.mk (by tm_at "w") q
 k_dflt obtain ⟨t1, t2, t3, t4, t5, t6⟩ := vD G0
 tm_at "v"
 (refine W1.aP Ty 1 [oS "part"] [(oS ".0", .local), (oS "part", .local), (oS "type_text", .globalImplicit)] _ ‹_› (by kernel_rfl) (by tm_at "dk") (by tm_at "dk") (by tm_at "lent") (by tm_at "dm") (by tm_at "dk") (by tm_at "m") (by tm_at "dk") ?_)
 tm_at "v"
 refine dt ok (by tm_at "r") T (aL.fn (ts := parts T) (e' := fun t => .str (aq t)) (au.seq ‹_› rfl) (cg _) (fun X' aF D C acc dC t cp => ?_) ?_)
 .tm_at "turn"
  intro I o
  have j7 := cq cp
  have Ez := iZ cp
  tm_at "v"
  exact ih t cp (eV hp cp) (by tm_at "o") (by tm_at "r") (by tm_at "endturn")
 refine .mk (by tm_at "p") (by tm_at "put") ?_
 cases T <;> (first | exact absurd rfl G0 | skip) <;> dsimp only [enc, parts, List.map, tag]
 case ref r m t _ =>
  (dsimp only [isPlain] at hp; simp only [Bool.and_eq_true, Option.isNone_iff_eq_none] at hp)
  obtain ⟨rfl, hp⟩ := hp
  dsimp only [eM]
  cases m
  all_goals tm_at "v"
  all_goals refine rT (n := 0) ok (by tm_at "r") ?_
  all_goals tm_at "v"
  all_goals refine Fin.mk (ae := Γ) (by tm_at "w") ?_
  .rw [iw, iw]; exact q
  .rw [iw, show oS "&" ++ oS "mut " = oS "&mut " from rfl]; exact q
 case box t _ =>
  tm_at "v"
  tm_at "fq"
 case arr t k _ =>
  (dsimp only [isPlain] at hp; simp only [Bool.and_eq_true, decide_eq_true_eq] at hp)
  tm_at "v"
  refine WC.str_int (Nat.lt_of_le_of_lt (Nat.log2_le_self _) (nA (k := 10) hp.1.1 (Int.le_of_lt hp.1.2) (Nat.le_of_ble_eq_true rfl))) ?_
  tm_at "v"
  tm_at "fq"
 case dj _ =>
  tm_at "v"
  refine WC.cn rfl (short rfl) ?_
  tm_at "v"
  refine WM.join ?_
  tm_at "v"
  refine WC.join .lst rfl (eW (by simp)) ?_
  rw [show Str.join (oS ", ") [] = oS "" from rfl]
  tm_at "v"
  tm_at "fq"
 case dq t _ =>
  tm_at "v"
  refine WC.cn rfl (short rfl) ?_
  tm_at "v"
  tm_at "fq"
 case bP t u _ =>
  tm_at "v"
  refine WC.cn rfl (short rfl) ?_
  tm_at "v"
  refine WM.join ?_
  tm_at "v"
  refine WC.join .lst rfl (eW (by (dsimp only [aq] at hl; simp only [Str.length_append] at hl); simp [show (oS ", ").length = 2 from rfl]; tm_at "o")) ?_
  rw [show Str.join (oS ", ") [aq t, aq u] = aq t ++ oS ", " ++ aq u from rfl]
  tm_at "v"
  refine Fin.mk (ae := Γ) (by tm_at "w") ?_
  (dsimp only [aq] at q ⊢; simp only [Str.append_assoc] at q ⊢)
  exact q
 case bU r t _ =>
  (dsimp only [isPlain] at hp; simp only [Bool.and_eq_true, Option.isNone_iff_eq_none] at hp)
  k_dflt obtain ⟨rfl, hp⟩ := hp
  dsimp only [eM]
  tm_at "v"
  (refine WE.gR Unit 1 [oS "region"] [(oS ".0", .local), (oS "region", .local), (oS "region_text", .globalImplicit)] _ (fun _ => false) (fun _ => .raw .none) (fun _ => .raw .none) ‹_› (by kernel_rfl) (by tm_at "dk") (by tm_at "dk") (by tm_at "lent") (by tm_at "dm") (by tm_at "dk") ?_)
  tm_at "v"
  refine ⟨[()], au.seq ‹_› rfl, short rfl, fun X' aF D C acc dC t cp => ?_, ?_⟩
  .dsimp only [Each, fu, blank, List.map, List.cons_append, List.nil_append, List.append]
   intro I o
   tm_at "v"
   refine WI.one ?_
   tm_at "v"
   refine ⟨rfl, ?_⟩
   tm_at "endfilt"
  .dsimp only [List.filter, List.map]
   tm_at "v"
   refine WB.ez .lst .lst (short rfl) ?_
   dsimp only [List.nil_append]
   tm_at "v"
   refine WE.list ?_
   tm_at "v"
   refine WB.za (ds := [.str (aq t)]) ‹_› .lst rfl (by show (PyData.strOk (aq t) && true) = true; rw [p8 hp]; rfl) ?_
   tm_at "v"
   refine WM.join ?_
   tm_at "v"
   refine WC.join .lst rfl (eW (by (dsimp only [aq] at hl; simp only [Str.length_append] at hl); simp [show (oS ", ").length = 2 from rfl]; tm_at "o")) ?_
   rw [show Str.join (oS ", ") [aq t] = aq t from rfl]
   tm_at "v"
   refine Fin.mk (ae := Γ) (by tm_at "w") ?_
   rw [show aq (.bU none t) = oS "G" ++ (oS "<" ++ aq t ++ oS ">") from by dsimp only [aq]; simp only [<- Str.append_assoc]; rfl] at q
   exact q
end
section
def kY {T : Ty} (h : isPlain T = true) : bB T = T := by
 induction T with
 | ref r m t ih => (dsimp only [isPlain] at h; simp only [Bool.and_eq_true, Option.isNone_iff_eq_none] at h); obtain ⟨rfl, h⟩ := h; exact congrArg (Ty.ref none m) (ih h)
 | box t ih => exact congrArg Ty.box (ih h)
 | arr t n ih => (dsimp only [isPlain] at h; simp only [Bool.and_eq_true] at h); exact congrArg (Ty.arr · n) (ih h.2)
 | dq t ih => exact congrArg Ty.dq (ih h)
 | bP t u zH oy => (dsimp only [isPlain] at h; simp only [Bool.and_eq_true] at h); show Ty.bP (bB t) (bB u) = _; rw [zH h.1, oy h.2]
 | bU r t ih => (dsimp only [isPlain] at h; simp only [Bool.and_eq_true, Option.isNone_iff_eq_none] at h); obtain ⟨rfl, h⟩ := h; exact congrArg (Ty.bU none) (ih h)
 | _ => rfl
noncomputable def cf (path : Str) (ts : List Ty) : Str := match ts with
 | [] => path
 | ts => path ++ (oS "<") ++ Str.join (oS ", ") (ts.map aq) ++ (oS ">")
structure kZ (path : Str) (ts : List Ty) (h : Nat) : Prop where
 plain : ∀ t ∈ ts, isPlain t = true
 ht : ∀ t ∈ ts, ht t <= h
 len : path.length + ((ts.map aq).map (·.length)).sum + ts.length * 2 <= 1000000
def mD {ts : List Ty} {t : Ty} (h : t ∈ ts) : (aq t).length <= ((ts.map aq).map (·.length)).sum := by
 induction ts with
 | nil => cases h
 | cons a r ih =>
  rcases List.mem_cons.mp h with rfl | h
  .simp
  .have := ih h; simp at this ⊢; tm_at "o"
def strs_map (ts : List Str) : strsOf (ts.map AV.str) = some ts := by
 induction ts with
 | nil => rfl
 | cons a r ih => show Option.map _ (strsOf (r.map AV.str)) = _; rw [ih]; rfl
def rU (sep : Str) (ts : List Str) : (Str.join sep ts).length <= (ts.map (·.length)).sum + ts.length * sep.length := StrLaws.join_length_le sep ts
def BO (ok : Ok G) (path : Str) (ts : List Ty) {h m : Nat} (hk : kZ path ts h) (hm : h + 6 <= m) (hR : aj A (m + 1)) (q : Q (.str (cf path ts)) Γ) : WC G A X (.ref 246) [.str path, .tup (ts.map enc)] Γ Q := by
 have g1 := kP ok
 have g2 := mn ok
 have b1 := iP ok
 have EK : ts.length <= 500000 := by have := hk.len; tm_at "o"
 tm_at "def2"
 tm_at "v"
 refine WC.cn rfl (by rw [List.length_map, sizeLine_eq]; tm_at "o") ?_
 k_dflt rcases ts with _ | ⟨t0, r⟩
 .tm_at "v"
  tm_at "fq"
 have h4 := hk.len
 refine WE.int ?_
 refine WB.wX (by simp; tm_at "o") ?_
 tm_at "v"
 refine WM.join ?_
 tm_at "v"
 (refine WE.aP Ty 1 [oS "T"] [(oS ".0", .local), (oS "T", .local), (oS "type_text", .globalImplicit), (oS "erased", .globalImplicit)] _ ‹_› (by kernel_rfl) (by tm_at "dk") (by tm_at "dk") (by tm_at "lent") (by tm_at "dm") (by tm_at "dk") ?_)
 tm_at "v"
 refine aL.fn (ts := t0 :: r) (e' := fun t => .str (aq t)) (au.seq ‹_› rfl) (by rw [sizeLine_eq]; tm_at "o") (fun X' aF D C acc dC t cp => ?_) ?_
 .tm_at "turn"
  intro I o
  have h1 := hk.plain t cp
  have h2 := hk.ht t cp
  have h3 := mD cp
  have h4 := hk.len
  tm_at "v"
  refine erased ok t (m := h + 5) (by tm_at "r") (by tm_at "o") ?_
  rw [kY h1]
  tm_at "v"
  exact vE ok t h1 (by tm_at "o") (by tm_at "r") (by tm_at "endturn")
 rw [mC AV.str aq]
 tm_at "v"
 have h4 := hk.len
 have h5 := rU (oS ", ") ((t0 :: r).map aq)
 rw [List.length_map, show (oS ", ").length = 2 from rfl] at h5
 refine WC.join .lst (strs_map _) (eW (by rw [List.length_map, show (oS ", ").length = 2 from rfl]; tm_at "o")) ?_
 generalize hJ : Str.join (oS ", ") ((t0 :: r).map aq) = J at h5 ⊢
 tm_at "v"
 refine Fin.mk (ae := Γ) (by tm_at "w") ?_
 rw [show cf path (t0 :: r) = path ++ (oS "<") ++ Str.join (oS ", ") ((t0 :: r).map aq) ++ (oS ">") from rfl, hJ] at q
 exact q
set_option tactic.hygienic true in
def xG (ok : Ok G) (T : Ty) : ∀ {A X Γ Q}, isPlain T = true -> (aq T).length <= 1000000 -> aj A (ht T + 3) -> Q (.str (aq T)) Γ -> WC G A X (.ref 575) [enc T] Γ Q := by
 have gt := kS ok
 have bl := iP ok
 have bs := AN ok
 induction T using mB with | h T ih => ?_
 intro A X Γ Q hp hl hR q
 tm_at "def1"
 cases T <;> dsimp only [enc]
 case i => tm_at "v"; tm_at "fq"
 case bool => tm_at "v"; tm_at "fq"
 case par => tm_at "v"; tm_at "fq"
 case ref r m t _ =>
  (dsimp only [isPlain] at hp; simp only [Bool.and_eq_true, Option.isNone_iff_eq_none] at hp)
  obtain ⟨rfl, hp⟩ := hp
  have j7 : ht t < ht (Ty.ref none m t) := Nat.lt_succ_self _
  cases m
  all_goals tm_at "v"
  all_goals refine ih t (.head _) hp (by (dsimp only [aq] at hl; simp only [if_true, Bool.false_eq_true, if_false, Str.length_append] at hl); tm_at "o") (by tm_at "r") ?_
  all_goals tm_at "v"
  all_goals exact Fin.mk (by tm_at "w") q
 case arr t k _ =>
  (dsimp only [isPlain] at hp; simp only [Bool.and_eq_true, decide_eq_true_eq] at hp)
  have j7 : ht t < ht (Ty.arr t k) := Nat.lt_succ_self _
  tm_at "v"
  refine ih t (.head _) hp.2 (by (dsimp only [aq] at hl; simp only [Str.length_append] at hl); tm_at "o") (by tm_at "r") ?_
  tm_at "v"
  refine WC.str_int (Nat.lt_of_le_of_lt (Nat.log2_le_self _) (by tm_at "o")) ?_
  tm_at "v"
  tm_at "fq"
 case box t _ =>
  have j7 : ht t < ht (Ty.box t) := Nat.lt_succ_self _
  tm_at "v"
  refine ih t (.head _) hp (by (dsimp only [aq] at hl; simp only [Str.length_append] at hl); tm_at "o") (by tm_at "r") ?_
  tm_at "v"
  tm_at "fq"
 case bU r t _ =>
  (dsimp only [isPlain] at hp; simp only [Bool.and_eq_true, Option.isNone_iff_eq_none] at hp)
  obtain ⟨rfl, hp⟩ := hp
  have j7 : ht t < ht (Ty.bU none t) := Nat.lt_succ_self _
  tm_at "v"
  refine ih t (.head _) hp (by (dsimp only [aq] at hl; simp only [Str.length_append] at hl); tm_at "o") (by tm_at "r") ?_
  tm_at "v"
  tm_at "fq"
 all_goals
  tm_at "v"
  refine WM.join ?_
  tm_at "v"
  (refine WE.aP Ty 1 [oS "one"] [(oS ".0", .local), (oS "one", .local), (oS "_law_text", .globalImplicit)] _ ‹_› (by kernel_rfl) (by tm_at "dk") (by tm_at "dk") (by tm_at "lent") (by tm_at "dm") (by tm_at "dk") ?_)
  tm_at "v"
 case dj _ =>
  refine aL.fn (ts := parts .dj) (e := enc) (e' := fun t => .str (aq t)) (au.seq ‹_› rfl) (cg _) (fun X' aF D C acc dC t cp => nomatch cp) ?_
  dsimp only [parts, List.map]
  tm_at "v"
  refine WC.join .lst rfl (eW (by simp)) ?_
  rw [show Str.join (oS ", ") [] = oS "" from rfl]
  tm_at "v"
  refine WC.cn rfl (short rfl) ?_
  tm_at "v"
  tm_at "fq"
 case dq t0 _ =>
  refine aL.fn (ts := parts (.dq t0)) (e' := fun t => .str (aq t)) (au.seq ‹_› rfl) (cg _) (fun X' aF D C acc dC t cp => ?_) ?_
  .tm_at "turn"
   intro I o
   have j7 := cq cp
   have Ez := iZ cp
   tm_at "v"
   exact ih t cp (eV hp cp) (by tm_at "o") (by tm_at "r") (by tm_at "endturn")
  dsimp only [parts, List.map]
  tm_at "v"
  refine WC.join .lst rfl (eW (by (dsimp only [aq] at hl; simp only [Str.length_append] at hl); simp [show (oS ", ").length = 2 from rfl]; tm_at "o")) ?_
  rw [show Str.join (oS ", ") [aq t0] = aq t0 from rfl]
  tm_at "v"
  refine WC.cn rfl (short rfl) ?_
  tm_at "v"
  tm_at "fq"
 case bP t0 u0 _ =>
  refine aL.fn (ts := parts (.bP t0 u0)) (e' := fun t => .str (aq t)) (au.seq ‹_› rfl) (cg _) (fun X' aF D C acc dC t cp => ?_) ?_
  .tm_at "turn"
   intro I o
   have j7 := cq cp
   have Ez := iZ cp
   tm_at "v"
   exact ih t cp (eV hp cp) (by tm_at "o") (by tm_at "r") (by tm_at "endturn")
  dsimp only [parts, List.map]
  tm_at "v"
  refine WC.join .lst rfl (eW (by (dsimp only [aq] at hl; simp only [Str.length_append] at hl); simp [show (oS ", ").length = 2 from rfl]; tm_at "o")) ?_
  rw [show Str.join (oS ", ") [aq t0, aq u0] = aq t0 ++ oS ", " ++ aq u0 from rfl]
  tm_at "v"
  refine WC.cn rfl (short rfl) ?_
  tm_at "v"
  refine Fin.mk (ae := Γ) (by tm_at "w") ?_
  (dsimp only [aq] at q ⊢; simp only [Str.append_assoc] at q ⊢)
  exact q
noncomputable def jI : dr -> PyData
 | none => .none
 | some x => .str x
noncomputable def encD : Ty -> PyData
 | .i n => .tuple [.str (oS "int"), .str n]
 | .bool => .tuple [.str (oS "bool")]
 | .par n => .tuple [.str (oS "param"), .str n]
 | .ref r m t => .tuple [.str (oS "ref"), jI r, .bool m, encD t]
 | .box t => .tuple [.str (oS "box"), encD t]
 | .arr t n => .tuple [.str (oS "array"), encD t, .int n]
 | .dj => .tuple [.str (oS "tuple"), .tuple []]
 | .dq t => .tuple [.str (oS "tuple"), .tuple [encD t]]
 | .bP t u => .tuple [.str (oS "tuple"), .tuple [encD t, encD u]]
 | .bU r t => .tuple [.str (oS "adt"), .str (oS "G"), .tuple [jI r], .tuple [encD t]]
noncomputable def EL : dr -> Bool
 | some x => PyData.strOk x
 | none => true
noncomputable def fy : Ty -> Bool
 | .i n => PyData.strOk n
 | .bool => true
 | .par n => PyData.strOk n
 | .ref r _ t => EL r && fy t
 | .box t => fy t
 | .arr t n => fy t
 | .dj => true
 | .dq t => fy t
 | .bP t u => fy t && fy u
 | .bU r t => EL r && fy t
theorem bI {T : Ty} (h : isPlain T = true) : fy T = true := by
 induction T with
 | i n => exact h
 | par n => exact h
 | bool => rfl
 | dj => rfl
 | ref r m t ih => (dsimp only [isPlain] at h; simp only [Bool.and_eq_true, Option.isNone_iff_eq_none] at h); obtain ⟨rfl, h⟩ := h; exact ih h
 | box t ih => exact ih h
 | arr t n ih => (dsimp only [isPlain] at h; simp only [Bool.and_eq_true] at h); exact ih h.2
 | dq t ih => exact ih h
 | bP t u zH oy => (dsimp only [isPlain] at h; simp only [Bool.and_eq_true] at h); exact Bool.and_eq_true_iff.mpr ⟨zH h.1, oy h.2⟩
 | bU r t ih => (dsimp only [isPlain] at h; simp only [Bool.and_eq_true, Option.isNone_iff_eq_none] at h); obtain ⟨rfl, h⟩ := h; exact ih h
theorem oA (r : dr) : (eM r).data = some (jI r) := by cases r <;> rfl
def gY (T : Ty) : (enc T).data = some (encD T) := by
 induction T with
 | i n => rfl
 | par n => rfl
 | bool => rfl
 | dj => rfl
 | ref r m t ih => (dsimp only [enc, AV.data, AV.a7]; simp only [oA, ih]); rfl
 | box t ih => (dsimp only [enc, AV.data, AV.a7]; simp only [ih]); rfl
 | arr t n ih => (dsimp only [enc, AV.data, AV.a7]; simp only [ih]); rfl
 | dq t ih => (dsimp only [enc, AV.data, AV.a7]; simp only [ih]); rfl
 | bP t u zH oy => (dsimp only [enc, AV.data, AV.a7]; simp only [zH, oy]); rfl
 | bU r t ih => (dsimp only [enc, AV.data, AV.a7]; simp only [oA, ih]); rfl
def eu (ts : List Ty) : AV.a7 (ts.map enc) = some (ts.map encD) := by
 induction ts with
 | nil => rfl
 | cons t r ih => (dsimp only [List.map, AV.a7]; rw [gY, ih])
def ix {T : Ty} (h : fy T = true) : (encD T).canLay0 = true := by
 have e1 : PyData.strOk (oS "int") = true /\ PyData.strOk (oS "bool") = true /\ PyData.strOk (oS "param") = true /\ PyData.strOk (oS "ref") = true /\ PyData.strOk (oS "box") = true /\ PyData.strOk (oS "array") = true /\ PyData.strOk (oS "tuple") = true /\ PyData.strOk (oS "adt") = true /\ PyData.strOk (oS "G") = true := by decide +kernel
 have er : ∀ r : dr, EL r = true -> (jI r).canLay0 = true := fun r h => by cases r <;> ((try dsimp only [jI, EL] at *); simp_all [PyData.canLay0])
 induction T <;> dsimp only [fy] at h <;> dsimp only [encD] <;> simp only [PyData.canLay0, PyData.canLayAll0, e1, Bool.and_eq_true, Bool.true_and, Bool.and_true] <;> simp_all
theorem fz {ts : List Ty} (h : ∀ t ∈ ts, fy t = true) : PyData.canLayAll0 (ts.map encD) = true := by
 induction ts with
 | nil => rfl
 | cons t r ih =>
  simp only [List.map_cons, PyData.canLayAll0, Bool.and_eq_true]
  exact ⟨ix (h t (.head _)), ih fun t ht => h t (.tail _ ht)⟩
def p9 (ok : Ok G) (path : Str) (ts : List Ty) {h m : Nat} (hk : kZ path ts h) (hm : h + 6 <= m) (hR : aj A (m + 1)) (q : Q (.str (cf path ts)) Γ) : WC G A X (.ref 580) [.str path, .tup (ts.map enc)] Γ Q := by
 have g1 := kS ok
 have EK : ts.length <= 500000 := by have := hk.len; tm_at "o"
 have BP := fz fun t ht => bI (hk.plain t ht)
 have G1 := eu ts
 have h4 := hk.len
 tm_at "def2"
 tm_at "v"
 rcases ts with _ | ⟨t0, r⟩
 .refine WB.vg ‹_› ?_
  tm_at "v"
  refine Fin.mk (ae := Γ) (by tm_at "w") ?_
  rw [iw]
  exact q
 refine WB.w6 ‹_› G1 BP ?_
 tm_at "v"
 refine WM.join ?_
 tm_at "v"
 (refine WE.aP Ty 1 [oS "T"] [(oS ".0", .local), (oS "T", .local), (oS "_law_text", .globalImplicit)] _ ‹_› (by kernel_rfl) (by tm_at "dk") (by tm_at "dk") (by tm_at "lent") (by tm_at "dm") (by tm_at "dk") ?_)
 tm_at "v"
 refine aL.fn (ts := t0 :: r) (e := enc) (e' := fun t => .str (aq t)) (au.seq ‹_› rfl) (by rw [sizeLine_eq]; tm_at "o") (fun X' aF D C acc dC t cp => ?_) ?_
 .tm_at "turn"
  intro I o
  have h1 := hk.plain t cp
  have h2 := hk.ht t cp
  have h3 := mD cp
  tm_at "v"
  exact xG ok t h1 (by tm_at "o") (by tm_at "r") (by tm_at "endturn")
 rw [mC AV.str aq]
 tm_at "v"
 have h5 := rU (oS ", ") ((t0 :: r).map aq)
 rw [List.length_map, show (oS ", ").length = 2 from rfl] at h5
 refine WC.join .lst (strs_map _) (eW (by rw [List.length_map, show (oS ", ").length = 2 from rfl]; tm_at "o")) ?_
 generalize hJ : Str.join (oS ", ") ((t0 :: r).map aq) = J at h5 ⊢
 tm_at "v"
 refine Fin.mk (ae := Γ) (by tm_at "w") ?_
 rw [show cf path (t0 :: r) = path ++ (oS "<") ++ Str.join (oS ", ") ((t0 :: r).map aq) ++ (oS ">") from rfl, hJ] at q
 simp only [Str.append_assoc] at q ⊢
 exact q
theorem WB.left {ts : List Ty} {a : Addr} {R : aa} (hR : aj A n) (p : aC a (.list (ts.map enc)) Γ R) (h : ∀ t ∈ ts, fy t = true) (q0 : ts = [] -> Q (.raw (.bool false)) Γ) (q1 : ∀ us t, ts = us ++ [t] -> Q (.raw (.bool true)) Γ) :
  WB G A X (compareOp .NotEq) Rep (.raw (.ref a)) (.lst []) Γ Q := by
 refine WB.ne_nil hR (.list p) (eu ts) (fz h) ?_
 rcases List.eq_nil_or_concat ts with e | ⟨us, t, e⟩
 .rw [show (ts.map enc).isEmpty = true from e ▸ rfl]; exact q0 e
 .rw [show (ts.map enc).isEmpty = false by rw [e, List.concat_eq_append]; cases us <;> rfl]; exact q1 us t (e.trans (List.concat_eq_append ..))
def WC.tJ {ts us : List Ty} {t : Ty} {a : Addr} {R : aa} (e : ts = us ++ [t]) (p : aC a (.list (ts.map enc)) Γ R) (hz : us.length <= 2000) (q : Q (enc t) ((a, .list (us.map enc)) :: R)) : WC G A X (.builtin "list.pop") [.raw (.ref a)] Γ Q := by
 cases e
 rw [List.map_append] at p
 exact WC.wV p (by rw [List.length_map]; exact Nat.le_trans (Nat.succ_le_succ hz) (by decide)) q
def WC.qa {ts : List Ty} {a : Addr} {v : AV} {R : aa} (us : List Ty) (p : aC a (.list (ts.map enc)) Γ R) (hv : cZ v = some (us.map enc)) (hz : ts.length + us.length <= 4000) (q : Q (.raw .none) ((a, .list ((ts ++ us).map enc)) :: R)) : WC G A X (.builtin "list.extend") [.raw (.ref a), v] Γ Q := by
 rw [List.map_append] at q
 exact WC.extend p (.inl hv) (by rw [List.length_map, List.length_map]; exact Nat.le_trans hz (by decide)) q
def WC.BQ {ts : List Ty} {a : Addr} {R : aa} (u : Ty) (p : aC a (.list (ts.map enc)) Γ R) (hz : ts.length <= 4000) (q : Q (.raw .none) ((a, .list ((ts ++ [u]).map enc)) :: R)) : WC G A X (.builtin "list.append") [.raw (.ref a), enc u] Γ Q := by
 rw [List.map_append] at q
 exact WC.append p (by rw [List.length_map]; exact Nat.le_trans hz (by decide)) q
def oH {v w : AV} (e : v = w) (h : Q w Γ) : Q v Γ := e ▸ h
end
section
noncomputable def plainT (tab : List (Str × Ty)) (T : Ty) : Ty := bB (bh tab T)
noncomputable def deep (tab : List (Str × Ty)) (T : Ty) : Nat := max (ht T) (ht (bh tab T))
def fW (ok : Ok G) (tab : List (Str × Ty)) (T : Ty) {m : Nat} (hm : deep tab T + 4 <= m) (hR : aj A (m + 1)) (q : Q (enc (plainT tab T)) Γ) : WC G A X (.ref 368) [enc T, ar G.w.params (bF tab)] Γ Q := by
 have g1 := mn ok
 have g2 := dJ ok
 have h1 : ht T <= deep tab T := Nat.le_max_left _ _
 have h2 : ht (bh tab T) <= deep tab T := Nat.le_max_right _ _
 tm_at "def2"
 tm_at "v"
 refine gX ok tab T (by tm_at "r") ?_
 tm_at "v"
 exact erased ok _ (m := ht (bh tab T) + 3) (by tm_at "r") (Nat.le_refl _) (Fin.mk (by tm_at "w") q)
inductive oJ where
 | const (T : Ty) (k : AV)
 | copy (p : AV)
 | move (p : AV)
noncomputable def dI : oJ -> AV
 | .const T k => .tup [.str (oS "const"), enc T, k]
 | .copy p => .tup [.str (oS "copy"), p]
 | .move p => .tup [.str (oS "move"), p]
noncomputable def cQ (tab : List (Str × Ty)) : oJ -> oJ
 | .const T k => .const (plainT tab T) k
 | o => o
noncomputable def da (tab : List (Str × Ty)) : oJ -> Nat
 | .const T k => deep tab T
 | _ => 0
def bV (ok : Ok G) (tab : List (Str × Ty)) (o : oJ) {m : Nat} (hm : da tab o + 4 <= m) (hR : aj A (m + 2)) (q : Q (dI (cQ tab o)) Γ) : WC G A X (.ref 375) [dI o, ar G.w.params (bF tab)] Γ Q := by
 have g1 := fU ok
 tm_at "def2"
 induction o <;> dsimp only [dI]
 case const T k =>
  tm_at "v"
  refine fW ok tab T (m := m) hm (by tm_at "r") ?_
  tm_at "v"
  tm_at "fq"
 all_goals tm_at "v"
 all_goals exact Fin.mk (by tm_at "w") q
def cC (ok : Ok G) (tab : List (Str × Ty)) (os : List oJ) {m : Nat} (hz : os.length <= sizeLine) (hm : ∀ o ∈ os, da tab o + 4 <= m) (hR : aj A (m + 3)) {x : AV} (hx : cZ x = some (os.map dI)) (q : Q (.tup ((os.map (cQ tab)).map dI)) Γ) : WC G A X (.ref 380) [x, ar G.w.params (bF tab)] Γ Q := by
 have g1 := cT ok
 have b1 := iq ok
 tm_at "def2"
 tm_at "v"
 (refine WE.aP oJ 1 [oS "operand"] [(oS ".0", .local), (oS "operand", .local), (oS "plain_operand", .globalImplicit), (oS "table", .cell)] _ ‹_› (by kernel_rfl) (by tm_at "dk") (by tm_at "dk") (by tm_at "lent") (by tm_at "dm") (by tm_at "dk") ?_)
 tm_at "v"
 refine aL.fn (ts := os) (e := dI) (e' := fun o => dI (cQ tab o)) (au.seq ‹_› hx) hz (fun X' aF D C acc dC t cp => ?_) ?_
 .tm_at "turn"
  intro I o
  have h1 := hm t cp
  tm_at "v"
  exact bV ok tab t (m := m) h1 (by tm_at "r") (by tm_at "endturn")
 rw [mC dI (cQ tab)]
 tm_at "v"
 exact WC.ei (by rw [List.length_map, List.length_map]; exact hz) (Fin.mk (by tm_at "w") q)
inductive Rv where
 | use (o : oJ)
 | box (o : oJ)
 | binary (op : Str) (os : List oJ)
 | unary (op : Str) (o : oJ)
 | cast (o : oJ) (T : Ty)
 | tuple (os : List oJ)
 | array (os : List oJ)
 | bU (T : Ty) (k : Int) (os : List oJ)
 | ref (r : dr) (k : Str) (p : AV)
noncomputable def vF : Rv -> AV
 | .use o => .tup [.str (oS "use"), dI o]
 | .box o => .tup [.str (oS "box"), dI o]
 | .binary op os => .tup (.str (oS "binary") :: .str op :: os.map dI)
 | .unary op o => .tup [.str (oS "unary"), .str op, dI o]
 | .cast o T => .tup [.str (oS "cast"), dI o, enc T]
 | .tuple os => .tup [.str (oS "tuple"), .tup (os.map dI)]
 | .array os => .tup [.str (oS "array"), .tup (os.map dI)]
 | .bU T k os => .tup [.str (oS "adt"), enc T, .int k, .tup (os.map dI)]
 | .ref r k p => .tup [.str (oS "ref"), eM r, .str k, p]
noncomputable def uA (tab : List (Str × Ty)) : Rv -> Rv
 | .use o => .use (cQ tab o)
 | .box o => .box (cQ tab o)
 | .binary op os => .binary op (os.map (cQ tab))
 | .unary op o => .unary op (cQ tab o)
 | .cast o T => .cast (cQ tab o) (plainT tab T)
 | .tuple os => .tuple (os.map (cQ tab))
 | .array os => .array (os.map (cQ tab))
 | .bU T k os => .bU (plainT tab T) k (os.map (cQ tab))
 | .ref r k p => .ref none k p
noncomputable def G2 (tab : List (Str × Ty)) (m : Nat) : Rv -> Prop
 | .use o => da tab o <= m
 | .box o => da tab o <= m
 | .binary op os => (∀ o ∈ os, da tab o <= m) /\ os.length <= 4 /\ os ≠ []
 | .unary op o => da tab o <= m
 | .cast o T => da tab o <= m /\ deep tab T <= m
 | .tuple os => (∀ o ∈ os, da tab o <= m) /\ os.length <= 8
 | .array os => (∀ o ∈ os, da tab o <= m) /\ os.length <= 8
 | .bU T k os => deep tab T <= m /\ (∀ o ∈ os, da tab o <= m) /\ os.length <= 8
 | .ref r k p => True
def gZ {n : Nat} (h : n <= 8) : n <= sizeLine := Nat.le_trans h (by decide)
def qb (ok : Ok G) (tab : List (Str × Ty)) (v : Rv) {m : Nat} (hm : G2 tab m v) (hR : aj A (m + 8)) (q : Q (vF (uA tab v)) Γ) : WC G A X (.ref 387) [vF v, ar G.w.params (bF tab)] Γ Q := by
 have g1 := cT ok
 have g2 := fw ok
 have g3 := fU ok
 tm_at "def2"
 induction v <;> dsimp only [vF, G2] at *
 case use o =>
  tm_at "v"
  refine bV ok tab o (m := m + 4) (by tm_at "o") (by tm_at "r") ?_
  tm_at "v"
  tm_at "fq"
 case box o =>
  tm_at "v"
  refine bV ok tab o (m := m + 4) (by tm_at "o") (by tm_at "r") ?_
  tm_at "v"
  tm_at "fq"
 case unary op o =>
  tm_at "v"
  refine bV ok tab o (m := m + 4) (by tm_at "o") (by tm_at "r") ?_
  tm_at "v"
  tm_at "fq"
 case ref r k p =>
  tm_at "v"
  tm_at "fq"
 case cast o T =>
  tm_at "v"
  refine bV ok tab o (m := m + 4) (by tm_at "o") (by tm_at "r") ?_
  tm_at "v"
  refine fW ok tab T (m := m + 4) (by tm_at "o") (by tm_at "r") ?_
  tm_at "v"
  tm_at "fq"
 case tuple os =>
  tm_at "v"
  refine cC ok tab os (m := m + 4) (gZ hm.2) (fun o ho => by have := hm.1 o ho; tm_at "o") (by tm_at "r") rfl ?_
  tm_at "v"
  tm_at "fq"
 case array os =>
  tm_at "v"
  refine cC ok tab os (m := m + 4) (gZ hm.2) (fun o ho => by have := hm.1 o ho; tm_at "o") (by tm_at "r") rfl ?_
  tm_at "v"
  tm_at "fq"
 case bU T k os =>
  tm_at "v"
  refine fW ok tab T (m := m + 4) (by tm_at "o") (by tm_at "r") ?_
  tm_at "v"
  refine cC ok tab os (m := m + 4) (gZ hm.2.2) (fun o ho => by have := hm.2.1 o ho; tm_at "o") (by tm_at "r") rfl ?_
  tm_at "v"
  tm_at "fq"
 case binary op os =>
  k_dflt obtain ⟨h1, h2, h3⟩ := hm
  tm_at "v"
  refine ⟨2, rfl, by tm_at "o", by simp, gZ (by simp; tm_at "o"), ?_⟩
  dsimp only [List.drop]
  tm_at "v"
  refine cC ok tab os (m := m + 4) (gZ (by tm_at "o")) (fun o ho => by have := h1 o ho; tm_at "o") (by tm_at "r") rfl ?_
  refine WB.jo (by simp) (by simpa using h3) (gZ (by simp; tm_at "o")) ?_
  dsimp only [List.cons_append, List.nil_append]
  tm_at "fq"
inductive Row where
 | assign (p : AV) (v : Rv)
 | print (o : oJ)
 | live (k : Int)
 | H9
noncomputable def cD : Row -> AV
 | .assign p v => .tup [.str (oS "assign"), p, vF v]
 | .print o => .tup [.str (oS "print"), dI o]
 | .live k => .tup [.str (oS "live"), .int k]
 | .H9 => .tup [.str (oS "nop")]
noncomputable def dX (tab : List (Str × Ty)) : Row -> Row
 | .assign p v => .assign p (uA tab v)
 | .print o => .print (cQ tab o)
 | r => r
noncomputable def G3 (tab : List (Str × Ty)) (m : Nat) : Row -> Prop
 | .assign p v => G2 tab m v
 | .print o => da tab o <= m
 | _ => True
def lr (ok : Ok G) (tab : List (Str × Ty)) (r : Row) {m : Nat} (hm : G3 tab m r) (hR : aj A (m + 9)) (q : Q (cD (dX tab r)) Γ) : WC G A X (.ref 394) [cD r, ar G.w.params (bF tab)] Γ Q := by
 have g1 := cT ok
 have g2 := mu ok
 tm_at "def2"
 induction r <;> dsimp only [cD, G3] at *
 case assign p v =>
  tm_at "v"
  refine qb ok tab v (m := m) hm (by tm_at "r") ?_
  tm_at "v"
  tm_at "fq"
 case print o =>
  tm_at "v"
  refine bV ok tab o (m := m + 4) (by tm_at "o") (by tm_at "r") ?_
  tm_at "v"
  tm_at "fq"
 all_goals tm_at "v"
 all_goals exact Fin.mk (by tm_at "w") q
end
section
noncomputable def mF : List AV -> Option Str
 | [.str p, .str n] => if p = (oS "param") then some n else none
 | _ => none
noncomputable def lu (ys : List AV) : AV :=
 if b9 (oS "ref") ys then .tup (.str (oS "ref") :: .raw .none :: ys.drop 2) else if dh (oS "adt") (oS "G") ys then .tup (.str (oS "adt") :: .str (oS "G") :: .tup [.raw .none] :: ys.drop 3) else .tup ys
mutual
noncomputable def aw (tab : List (Str × Ty)) : AV -> AV
 | .tup xs => match mF xs with
  | some n => (match gz tab n with | some T => enc T | none => .tup xs)
  | none => lu (lE tab xs)
 | .raw v => .raw v
 | .int i => .int i
 | .str x => .str x
 | .lst xs => .lst xs
 | .ins C ns xs => .ins C ns xs
 | .dS p => .dS p
noncomputable def lE (tab : List (Str × Ty)) : List AV -> List AV
 | [] => []
 | x :: xs => aw tab x :: lE tab xs
end
theorem eX (tab : List (Str × Ty)) (xs : List AV) : lE tab xs = xs.map (aw tab) := by
 induction xs with
 | nil => rfl
 | cons x xs ih => (dsimp only [lE]; simp only [List.map_cons, ih])
inductive Wf (tab : List (Str × Ty)) : AV -> Nat -> Prop
 | none {k} : Wf tab (.raw .none) k
 | bool {b k} : Wf tab (.raw (.bool b)) k
 | int {i k} : Wf tab (.int i) k
 | str {x k} : PyData.strOk x = true -> Wf tab (.str x) k
 | par {n T k} : PyData.strOk n = true -> gz tab n = some T -> Wf tab (.tup [.str (oS "param"), .str n]) (k + 1)
 | tup {xs k} : b9 (oS "param") xs = false -> xs.length <= 60 -> (b9 (oS "ref") xs = true -> 2 < xs.length) -> (dh (oS "adt") (oS "G") xs = true -> 3 < xs.length) -> (∀ x ∈ xs, Wf tab x k) -> Wf tab (.tup xs) (k + 1)
def Dat (x : AV) : Prop := ∃ d, x.data = some d /\ d.canLay0 = true
def xH {xs : List AV} (h : ∀ x ∈ xs, Dat x) : ∃ ds, AV.a7 xs = some ds /\ PyData.canLayAll0 ds = true := by
 induction xs with
 | nil => exact ⟨[], rfl, rfl⟩
 | cons x xs ih =>
  obtain ⟨d, e, c⟩ := h x (.head _)
  obtain ⟨ds, e2, c2⟩ := ih fun y hy => h y (.tail _ hy)
  exact ⟨d :: ds, by (dsimp only [AV.a7]; simp only [e, e2]), by simp only [PyData.canLayAll0, c, c2, Bool.and_self]⟩
def iy {xs : List AV} (h : ∀ x ∈ xs, Dat x) : Dat (.tup xs) := by
 obtain ⟨ds, e, c⟩ := xH h
 exact ⟨.tuple ds, by (dsimp only [AV.data]; simp only [e]); rfl, by simp only [PyData.canLay0]; exact c⟩
def zI {T : Ty} (h : fy T = true) : Dat (enc T) := ⟨_, gY T, ix h⟩
def eY {x : Str} (h : PyData.strOk x = true) : Dat (.str x) := ⟨.str x, rfl, by simp only [PyData.canLay0]; exact h⟩
theorem fX {xs : List AV} (h : b9 (oS "param") xs = false) : mF xs = none := by
 cases xs with
 | nil => rfl
 | cons x xs => cases x with
  | str p => cases xs with
   | nil => rfl
   | cons y ys => cases y with
    | str n => induction ys with
     | nil => exact if_neg (of_decide_eq_false h)
     | cons _ _ => rfl
    | _ => rfl
  | _ => rfl
def xI (tab : List (Str × Ty)) : Prop := ∀ n T, gz tab n = some T -> fy T = true
def BR {tab : List (Str × Ty)} {x : AV} {k : Nat} (h : Wf tab x k) : Dat x := by
 induction h with
 | none => exact ⟨.none, rfl, rfl⟩
 | bool => exact ⟨.bool _, rfl, rfl⟩
 | int => exact ⟨.int _, rfl, rfl⟩
 | str h => exact eY h
 | par h _ =>
  refine iy fun x hx => ?_
  rcases List.mem_cons.mp hx with rfl | hx
  .exact eY (by tm_at "dk")
  .rcases List.mem_cons.mp hx with rfl | hx
   .exact eY h
   .cases hx
 | tup _ _ _ _ _ ih => exact iy ih
def xJ {ys : List AV} (h : ∀ y ∈ ys, Dat y) : Dat (lu ys) := by
 have d : ∀ k, ∀ y ∈ ys.drop k, Dat y := fun k y hy => h y (List.mem_of_mem_drop hy)
 have hn : Dat (.raw .none) := ⟨.none, rfl, rfl⟩
 unfold lu
 split
 .refine iy fun x hx => ?_
  rcases List.mem_cons.mp hx with rfl | hx
  .exact eY (by tm_at "dk")
  .rcases List.mem_cons.mp hx with rfl | hx
   .exact hn
   .exact d 2 x hx
 .split
  .refine iy fun x hx => ?_
   rcases List.mem_cons.mp hx with rfl | hx
   .exact eY (by tm_at "dk")
   .rcases List.mem_cons.mp hx with rfl | hx
    .exact eY (by tm_at "dk")
    .rcases List.mem_cons.mp hx with rfl | hx
     .exact iy fun z hz => by rcases List.mem_cons.mp hz with rfl | hz; exact hn; cases hz
     .exact d 3 x hx
  .exact iy h
def tK {tab : List (Str × Ty)} (ht : xI tab) {x : AV} {k : Nat} (h : Wf tab x k) : Dat (aw tab x) := by
 induction h with
 | none => exact ⟨.none, rfl, rfl⟩
 | bool => exact ⟨.bool _, rfl, rfl⟩
 | int => exact ⟨.int _, rfl, rfl⟩
 | str h => exact eY h
 | par h e => (dsimp only [aw, mF]; simp only [if_true, e]); exact zI (ht _ _ e)
 | tup h1 _ _ _ _ ih =>
  (dsimp only [aw]; simp only [fX h1, eX])
  refine xJ fun y hy => ?_
  obtain ⟨x, hx, rfl⟩ := List.mem_map.mp hy
  exact ih x hx
def xK (ys : List AV) : ∃ zs, lu ys = .tup zs := by
 unfold lu
 split
 .exact ⟨_, rfl⟩
 .split <;> exact ⟨_, rfl⟩
noncomputable def BS : AV -> Prop
 | .str _ => True
 | _ => False
def tL {tab : List (Str × Ty)} {x : AV} {t : Str} (h : aw tab x = .str t) : x = .str t := by
 have k : BS (aw tab x) := h ▸ trivial
 cases x with
 | tup xs =>
  have e : ∃ zs, aw tab (.tup xs) = .tup zs := by
   dsimp only [aw]
   cases mF xs with
   | none => exact xK _
   | some n =>
    dsimp only
    cases gz tab n with
    | none => exact ⟨_, rfl⟩
    | some T => induction T <;> exact ⟨_, rfl⟩
  obtain ⟨zs, e⟩ := e
  rw [e] at k; exact False.elim k
 | str x => exact h
 | _ => exact False.elim k
def g0 {tab : List (Str × Ty)} {x : AV} {s : Str} (hs : iW s (aw tab x) = true) : iW s x = true := by
 generalize e : aw tab x = y at hs
 cases y with
 | str t => rw [tL e]; exact hs
 | _ => cases hs
def k9 {tab : List (Str × Ty)} {xs : List AV} {s : Str} (hs : b9 s (xs.map (aw tab)) = true) : b9 s xs = true := by
 induction xs with
 | nil => exact hs
 | cons x xs => exact g0 hs
def jJ {tab : List (Str × Ty)} {xs : List AV} {s u : Str} (hs : dh s u (xs.map (aw tab)) = true) : dh s u xs = true := by
 rcases xs with _ | ⟨x, _ | ⟨x2, xs⟩⟩
 .exact hs
 .cases hs
 .have h := Bool.and_eq_true_iff.mp hs
  exact Bool.and_eq_true_iff.mpr ⟨g0 h.1, g0 h.2⟩
def fY (ok : Ok G) {tab : List (Str × Ty)} (ht : xI tab) {x : AV} {k : Nat} (h : Wf tab x k) : ∀ {A X Γ Q}, aj A (k + 3) -> Q (aw tab x) Γ -> WC G A X (.ref 585) [x, ar G.w.params (bF tab)] Γ Q := by
 have g1 := fc ok
 have b1 := pY ok
 have b2 := iq ok
 induction h with
 | none =>
  intro A X Γ Q hR q
  tm_at "def2"
  tm_at "v"
  refine WC.w8 ?_
  tm_at "v"
  tm_at "fq"
 | bool =>
  intro A X Γ Q hR q
  tm_at "def2"
  tm_at "v"
  refine WC.w7 ?_
  tm_at "v"
  tm_at "fq"
 | int =>
  intro A X Γ Q hR q
  tm_at "def2"
  tm_at "v"
  refine WC.ze ?_
  tm_at "v"
  tm_at "fq"
 | str _ =>
  intro A X Γ Q hR q
  tm_at "def2"
  tm_at "v"
  refine WC.zd ?_
  tm_at "v"
  tm_at "fq"
 | @par n T k hn hT =>
  intro A X Γ Q hR q
  obtain ⟨ds, hd, hc⟩ := xH (xs := [.str (oS "param")]) fun x hx => by rcases List.mem_cons.mp hx with rfl | hx; exact eY (by tm_at "dk"); cases hx
  tm_at "def2"
  tm_at "v"
  refine WC.uj ?_
  tm_at "v"
  refine ⟨1, rfl, short rfl, ?_⟩
  tm_at "v"
  refine WB.pG (xs := [.str (oS "param"), .str n]) ‹_› hd hc (by tm_at "dk") ?_
  rw [show b9 (oS "param") [.str (oS "param"), .str n] = true from rfl]
  tm_at "v"
  refine WB.item_dict .d8 (y := enc T) (by rw [pZ, hT]; rfl) (Fin.mk (ae := Γ) (by tm_at "w") ?_)
  (dsimp only [aw, mF] at q; simp only [if_true, hT] at q)
  exact q
 | @tup xs k h1 h2 h3 h4 hw ih =>
  intro A X Γ Q hR q
  k_dflt obtain ⟨ds, hd, hc⟩ := xH (xs := xs.take 1) fun x hx => BR (hw x (List.mem_of_mem_take hx))
  have hy : ∀ y ∈ xs.map (aw tab), Dat y := fun y hy => by
   obtain ⟨x, hx, rfl⟩ := List.mem_map.mp hy
   exact tK ht (hw x hx)
  obtain ⟨LN, KD, DU⟩ := xH (xs := (xs.map (aw tab)).take 1) fun x hx => hy x (List.mem_of_mem_take hx)
  k_dflt obtain ⟨LP, hd2, DV⟩ := xH (xs := (xs.map (aw tab)).take 2) fun x hx => hy x (List.mem_of_mem_take hx)
  have hlen : (xs.map (aw tab)).length = xs.length := List.length_map ..
  (dsimp only [aw] at q; simp only [fX h1, eX] at q)
  tm_at "def2"
  tm_at "v"
  refine WC.uj ?_
  tm_at "v"
  refine ⟨1, rfl, Nat.le_trans h2 (by decide), ?_⟩
  tm_at "v"
  refine WB.pG ‹_› hd hc (by tm_at "dk") ?_
  rw [h1]
  tm_at "v"
  (refine WE.aP AV 1 [oS "one"] [(oS ".0", .local), (oS "one", .local), (oS "_law_closed", .globalImplicit), (oS "table", .cell)] _ ‹_› (by kernel_rfl) (by tm_at "dk") (by tm_at "dk") (by tm_at "lent") (by tm_at "dm") (by tm_at "dk") ?_)
  tm_at "v"
  refine aL.fn (ts := xs) (e := fun x => x) (e' := aw tab) (by rw [List.map_id']; exact au.seq ‹_› rfl) (Nat.le_trans h2 (by decide)) (fun X' aF D C acc dC t cp => ?_) ?_
  .tm_at "turn"
   intro I o
   tm_at "v"
   exact ih t cp (by tm_at "r") (by tm_at "endturn")
  tm_at "v"
  refine WC.ei (Nat.le_trans (Nat.le_of_eq hlen) (Nat.le_trans h2 (by decide))) ?_
  tm_at "v"
  refine ⟨1, rfl, Nat.le_trans (Nat.le_of_eq hlen) (Nat.le_trans h2 (by decide)), ?_⟩
  tm_at "v"
  refine WB.pG ‹_› KD DU (by tm_at "dk") ?_
  unfold lu at q
  cases hr : b9 (oS "ref") (xs.map (aw tab)) with
  | true =>
   rw [if_pos hr] at q
   have hl := h3 (k9 hr)
   tm_at "v"
   refine ⟨2, rfl, by tm_at "o", by rw [hlen]; tm_at "o", Nat.le_trans (Nat.le_of_eq hlen) (Nat.le_trans h2 (by decide)), ?_⟩
   refine WB.jo (by simp) (fun e => by have := congrArg List.length e; simp at this; tm_at "o") (Nat.le_trans (by simp; tm_at "o") (show 64 <= sizeLine by decide)) ?_
   tm_at "fq"
  | false =>
   rw [hr, if_neg Bool.false_ne_true] at q
   tm_at "v"
   refine ⟨2, rfl, Nat.le_trans (Nat.le_of_eq hlen) (Nat.le_trans h2 (by decide)), ?_⟩
   tm_at "v"
   refine WB.xa ‹_› hd2 DV (by tm_at "dk") (by tm_at "dk") ?_
   cases ha : dh (oS "adt") (oS "G") (xs.map (aw tab)) with
   | true =>
    rw [if_pos ha] at q
    have hl := h4 (jJ ha)
    tm_at "v"
    refine ⟨3, rfl, by tm_at "o", by rw [hlen]; tm_at "o", Nat.le_trans (Nat.le_of_eq hlen) (Nat.le_trans h2 (by decide)), ?_⟩
    refine WB.jo (by simp) (fun e => by have := congrArg List.length e; simp at this; tm_at "o") (Nat.le_trans (by simp; tm_at "o") (show 64 <= sizeLine by decide)) ?_
    tm_at "fq"
   | false =>
    rw [ha, if_neg Bool.false_ne_true] at q
    tm_at "v"
    tm_at "fq"
end
section
def i0 (x y : Int) : Prop := 0 <= x /\ 0 <= y /\ y < 2147483647
def dw (ok : Ok G) {a : Addr} {R : aa} {x y top : Int} (hs : i0 x y) (ht : 1 <= top /\ top <= 1000) (p : aC a (.list [.int x, .int y]) Γ R) (hR : aj A (n + 1))
  (q : ∀ x' y' d, i0 x' y' -> 0 <= d -> d < top -> Q (.int d) ((a, .list [.int x', .int y']) :: R)) : WC G A X (.ref 552) [.raw (.ref a), .int top] Γ Q := by
 have b1 := AO ok
 obtain ⟨hx, hy, KG⟩ := hs
 tm_at "def2"
 tm_at "v"
 refine WB.gt_int ?_
 by_cases h0 : x > 0
 .rw [decide_eq_true h0]
  tm_at "v"
  refine WC.int_int ?_
  tm_at "v"
  refine WB.mod_int (by tm_at "o") ?_
  tm_at "v"
  refine WB.uk (by tm_at "o") (Nat.lt_of_le_of_lt (Nat.log2_le_self _) (nA (k := 1000) (Int.le_trans (by decide) ht.1) ht.2 (Nat.le_of_ble_eq_true rfl))) ?_
  tm_at "v"
  have h1 : 0 <= x.fdiv top := Int.fdiv_nonneg hx (by tm_at "o")
  have h2 : 0 <= x.fmod top := Int.fmod_nonneg_of_pos x (by tm_at "o")
  have h3 : x.fmod top < top := Int.fmod_lt_of_pos x (by tm_at "o")
  exact Fin.mk (by tm_at "w") (q _ _ _ ⟨h1, hy, KG⟩ h2 h3)
 .rw [decide_eq_false h0]
  tm_at "v"
  refine WB.mul_int (.inr (by decide)) ?_
  tm_at "v"
  refine WB.add_int ?_
  tm_at "v"
  refine WC.int_int ?_
  tm_at "v"
  refine WB.mod_int (by tm_at "o") ?_
  tm_at "v"
  have h1 : 0 <= (y * 39373 + 7).fmod 2147483647 := Int.fmod_nonneg_of_pos _ (by decide)
  have h2 : (y * 39373 + 7).fmod 2147483647 < 2147483647 := Int.fmod_lt_of_pos _ (by decide)
  generalize (y * 39373 + 7).fmod 2147483647 = z at h1 h2 ⊢
  refine WB.mul_int (.inl (PySem.intBits_le_64 (by tm_at "o") (by tm_at "o"))) ?_
  tm_at "v"
  refine WC.int_int ?_
  tm_at "v"
  refine WB.mod_int (by tm_at "o") ?_
  tm_at "v"
  refine WB.uk (by tm_at "o") (by tm_at "dk") ?_
  tm_at "v"
  refine WC.int_int ?_
  tm_at "v"
  refine WB.mod_int (by tm_at "o") ?_
  have h4 : 0 <= (((z * z).fmod 2147483629).fdiv 32).fmod top := Int.fmod_nonneg_of_pos _ (by tm_at "o")
  have h5 : (((z * z).fmod 2147483629).fdiv 32).fmod top < top := Int.fmod_lt_of_pos _ (by tm_at "o")
  exact Fin.mk (by tm_at "w") (q _ _ _ ⟨hx, h1, h2⟩ h4 h5)
def qc (ok : Ok G) {a : Addr} {R : aa} {x y : Int} {tv : AV} {ts : List AV} (hs : i0 x y) (hl : 1 <= ts.length /\ ts.length <= 1000) (p : aC a (.list [.int x, .int y]) Γ R) (ht : LstIs R tv ts) (hR : aj A (n + 2))
  (q : ∀ x' y' t, i0 x' y' -> t ∈ ts -> Q t ((a, .list [.int x', .int y']) :: R)) : WC G A X (.ref 559) [.raw (.ref a), tv] Γ Q := by
 have g1 := eT ok
 have b1 := iP ok
 have KH := ht.sZ p
 tm_at "def2"
 tm_at "v"
 refine WC.vh KH.there (Nat.le_trans hl.2 (by decide)) ?_
 tm_at "v"
 refine dw ok hs (by tm_at "o") (.there p) (by tm_at "r") fun x' y' d yK h0 h1 => ?_
 obtain ⟨k, rfl⟩ := Int.eq_ofNat_of_zero_le h0
 have hk : k < ts.length := by tm_at "o"
 refine WB.s9 ht.there.there h0 (by tm_at "o") (y := ts[k]) (by simp [hk]) ?_
 exact Fin.mk (by tm_at "w") (q _ _ _ yK (List.getElem_mem hk))
def i4 (ok : Ok G) {r t : AV} (hR : aj A (n + 1)) (q : Q (.tup [.str (oS "adt"), .str (oS "G"), .tup [r], .tup [t]]) Γ) : WC G A X (.ref 570) [r, t] Γ Q := by
 tm_at "def2"
 tm_at "v"
 tm_at "fq"
noncomputable def br : Ty -> Bool
 | .i _ => false
 | .bool => false
 | .par _ => false
 | .ref _ _ _ => false
 | .box _ => true
 | .arr t _ => br t
 | .dj => false
 | .dq t => br t
 | .bP t u => br t || br u
 | .bU _ _ => false
set_option tactic.hygienic true in
def rV (ok : Ok G) (T : Ty) : ∀ {A X Γ Q}, fy T = true -> aj A (ht T + 3) -> Q (.raw (.bool (br T))) Γ -> WC G A X (.ref 590) [enc T] Γ Q := by
 have g1 := gW ok
 induction T using mB with | h T ih => ?_
 intro A X Γ Q BU hR q
 tm_at "def1"
 cases T <;> dsimp only [enc]
 case arr t k _ =>
  have j7 : ht t < ht (Ty.arr t k) := Nat.lt_succ_self _
  tm_at "v"
  exact ih t (.head _) BU (by tm_at "r") (Fin.mk (by tm_at "w") q)
 case dj =>
  tm_at "v"
  (refine WE.gR Ty 1 [oS "one"] [(oS ".0", .local), (oS "one", .local), (oS "_law_has_box", .globalImplicit)] _ (br) (enc) (enc) ‹_› (by kernel_rfl) (by tm_at "dk") (by tm_at "dk") (by tm_at "lent") (by tm_at "dm") (by tm_at "dk") ?_)
  tm_at "v"
  refine ⟨[], au.seq ‹_› rfl, short rfl, fun X' aF D C acc dC t cp => (nomatch cp), ?_⟩
  tm_at "v"
  refine WE.list ?_
  tm_at "v"
  exact WB.wW ‹_› .lst (Fin.mk (by tm_at "w") q)
 case dq t0 _ =>
  tm_at "v"
  (refine WE.gR Ty 1 [oS "one"] [(oS ".0", .local), (oS "one", .local), (oS "_law_has_box", .globalImplicit)] _ (br) (enc) (enc) ‹_› (by kernel_rfl) (by tm_at "dk") (by tm_at "dk") (by tm_at "lent") (by tm_at "dm") (by tm_at "dk") ?_)
  tm_at "v"
  refine ⟨[t0], au.seq ‹_› rfl, short rfl, fun X' aF D C acc dC t cp => ?_, ?_⟩
  .dsimp only [Each, fu, blank, List.map, List.cons_append, List.nil_append, List.append]
   intro I o
   have j7 := cq (T := .dq t0) cp
   tm_at "v"
   refine WI.one ?_
   tm_at "v"
   refine ih t cp (by rcases List.mem_cons.mp cp with rfl | h; exact BU; cases h) (by tm_at "r") ?_
   refine ⟨rfl, ?_⟩
   generalize br t = b
   cases b
   .tm_at "endfilt"
   .tm_at "v"
    tm_at "endturn"
  tm_at "v"
  refine WE.list ?_
  tm_at "v"
  refine WB.ne_nil ‹_› .lst (eu _) (fz (ts := [t0].filter br) fun t h => by rcases List.mem_cons.mp (List.mem_filter.mp h).1 with rfl | h; exact BU; cases h) ?_
  refine Fin.mk (ae := Γ) (by tm_at "w") ?_
  rw [show (!(([t0].filter br).map enc).isEmpty) = br (.dq t0) from by show _ = br t0; cases h : br t0 <;> simp [h]]
  exact q
 case bP t0 u0 _ =>
  (dsimp only [fy] at BU; simp only [Bool.and_eq_true] at BU)
  tm_at "v"
  (refine WE.gR Ty 1 [oS "one"] [(oS ".0", .local), (oS "one", .local), (oS "_law_has_box", .globalImplicit)] _ (br) (enc) (enc) ‹_› (by kernel_rfl) (by tm_at "dk") (by tm_at "dk") (by tm_at "lent") (by tm_at "dm") (by tm_at "dk") ?_)
  tm_at "v"
  have tF : ∀ t ∈ [t0, u0], fy t = true := fun t h => by
   rcases List.mem_cons.mp h with rfl | h
   .exact BU.1
   .rcases List.mem_cons.mp h with rfl | h
    .exact BU.2
    .cases h
  refine ⟨([t0, u0]), au.seq ‹_› rfl, short rfl, fun X' aF D C acc dC t cp => ?_, ?_⟩
  .dsimp only [Each, fu, blank, List.map, List.cons_append, List.nil_append, List.append]
   intro I o
   have j7 := cq (T := .bP t0 u0) cp
   tm_at "v"
   refine WI.one ?_
   tm_at "v"
   refine ih t cp (tF t cp) (by tm_at "r") ?_
   refine ⟨rfl, ?_⟩
   generalize br t = b
   cases b
   .tm_at "endfilt"
   .tm_at "v"
    tm_at "endturn"
  tm_at "v"
  refine WE.list ?_
  tm_at "v"
  refine WB.ne_nil ‹_› .lst (eu _) (fz (ts := [t0, u0].filter br) fun t h => tF t (List.mem_filter.mp h).1) ?_
  refine Fin.mk (ae := Γ) (by tm_at "w") ?_
  rw [show (!(([t0, u0].filter br).map enc).isEmpty) = br (.bP t0 u0) from by show _ = (br t0 || br u0); cases h : br t0 <;> cases h2 : br u0 <;> simp [h, h2]]
  exact q
 all_goals
  tm_at "v"
  tm_at "fq"
end
section
def qd (ok : Ok G) : fL G (.ref 560) (enc (.i (oS "i32"))) := fL.tup (by rw [ok.K]; rfl) fun _ _ _ => .cons (.str _ _) (.cons (.str _ _) .nil)
def qe (ok : Ok G) : fL G (.ref 561) (enc .bool) := fL.tup (by rw [ok.K]; rfl) fun _ _ _ => .cons (.str _ _) .nil
def jK (ok : Ok G) : fL G (.ref 563) (enc .dj) := fL.tup (by rw [ok.K]; rfl) fun Γ s S => .cons (.str _ _) (.cons (fL.tup (vs := []) (xs := []) (by rw [ok.K]; rfl) (fun _ _ _ => .nil) Γ s S) .nil)
noncomputable def Drawn : Ty -> Prop
 | .i n => n = (oS "i32")
 | .bool => True
 | .par _ => False
 | .ref r _ t => r = some (oS "'static") /\ Drawn t
 | .box t => Drawn t
 | .arr t n => 1 <= n /\ n <= 3 /\ Drawn t
 | .dj => False
 | .dq t => Drawn t
 | .bP t u => t = u /\ Drawn t
 | .bU r t => r = some (oS "'static") /\ Drawn t
def mG (ok : Ok G) {a : Addr} (d : Nat) : ∀ {A X Γ Q R x y}, i0 x y -> aC a (.list [.int x, .int y]) Γ R -> d <= 10 -> aj A (d + 3) ->
  (∀ x' y' T, i0 x' y' -> Drawn T -> ht T <= d -> Q (enc T) ((a, .list [.int x', .int y']) :: R)) -> WC G A X (.ref 597) [.raw (.ref a), .int d] Γ Q := by
 have g1 := eT ok
 have g2 := fV ok
 have g3 := gV ok
 have g4 := eU ok
 have g5 := fb ok
 have si := qd ok
 have sb := qe ok
 induction d with
 | zero =>
  intro A X Γ Q R x y hs p hd hR q
  tm_at "def2"
  tm_at "v"
  refine WB.gt_int ?_
  rw [show decide (((0 : Nat) : Int) > 0) = false from rfl]
  tm_at "v"
  refine dw ok hs (by tm_at "o") (.there p) (by tm_at "r") fun x' y' way yK h0 h1 => ?_
  tm_at "v"
  refine WB.lt_int ?_
  have hw : way = 0 \/ way = 1 := by tm_at "o"
  rcases hw with rfl | rfl
  all_goals
   first | rw [show decide ((0 : Int) < 2) = true from rfl] | rw [show decide ((1 : Int) < 2) = true from rfl]
   tm_at "v"
   refine WE.list (.cons (Nm.global ‹_› (by tm_at "m") g2 si (.cons (Nm.global ‹_› (by tm_at "m") g3 sb (.nil ⟨short rfl, ?_⟩)))))
   tm_at "v"
  .exact Fin.mk (by tm_at "w") (q _ _ (.i (oS "i32")) yK rfl (Nat.le_refl _))
  .exact Fin.mk (by tm_at "w") (q _ _ .bool yK trivial (Nat.le_refl _))
 | succ d ih =>
  intro A X Γ Q R x y hs p hd hR q
  tm_at "def2"
  tm_at "v"
  refine WB.gt_int ?_
  rw [show decide (((d + 1 : Nat) : Int) > 0) = true from decide_eq_true (by tm_at "o")]
  tm_at "v"
  refine dw ok hs (by tm_at "o") (.there p) (by tm_at "r") fun x' y' way yK h0 h1 => ?_
  tm_at "v"
  refine WB.lt_int ?_
  have hw : way = 0 \/ way = 1 \/ way = 2 \/ way = 3 \/ way = 4 \/ way = 5 \/ way = 6 := by tm_at "o"
  rcases hw with rfl | rfl | hw
  .rw [show decide ((0 : Int) < 2) = true from rfl]
   tm_at "v"
   refine WE.list (.cons (Nm.global ‹_› (by tm_at "m") g2 si (.cons (Nm.global ‹_› (by tm_at "m") g3 sb (.nil ⟨short rfl, ?_⟩)))))
   tm_at "v"
   exact Fin.mk (by tm_at "w") (q _ _ (.i (oS "i32")) yK rfl (Nat.zero_le _))
  .rw [show decide ((1 : Int) < 2) = true from rfl]
   tm_at "v"
   refine WE.list (.cons (Nm.global ‹_› (by tm_at "m") g2 si (.cons (Nm.global ‹_› (by tm_at "m") g3 sb (.nil ⟨short rfl, ?_⟩)))))
   tm_at "v"
   exact Fin.mk (by tm_at "w") (q _ _ .bool yK trivial (Nat.zero_le _))
  .rw [show decide (way < 2) = false from decide_eq_false (by tm_at "o")]
   tm_at "v"
   refine WB.sub_int ?_
   rw [show (((d + 1 : Nat) : Int) - 1) = ((d : Nat) : Int) from by tm_at "o"]
   tm_at "v"
   refine ih yK (by tm_at "p") (by tm_at "o") (by tm_at "r") fun x2 y2 T xM hT hh => ?_
   rcases hw with rfl | rfl | rfl | rfl | rfl
   all_goals tm_at "v"
   .refine dw ok xM (by tm_at "o") (by tm_at "p") (by tm_at "r") fun x3 y3 e nM e0 e1 => ?_
    tm_at "v"
    refine WB.eq_int ?_
    tm_at "v"
    exact Fin.mk (by tm_at "w") (q _ _ (.ref (some (oS "'static")) (decide (e = 0)) T) nM ⟨rfl, hT⟩ (Nat.succ_le_succ hh))
   .refine dw ok xM (by tm_at "o") (by tm_at "p") (by tm_at "r") fun x3 y3 e nM e0 e1 => ?_
    tm_at "v"
    refine WB.add_int ?_
    tm_at "v"
    exact Fin.mk (by tm_at "w") (q _ _ (.arr T (1 + e)) nM ⟨by tm_at "o", by tm_at "o", hT⟩ (Nat.succ_le_succ hh))
   .refine dw ok xM (by tm_at "o") (by tm_at "p") (by tm_at "r") fun x3 y3 e nM e0 e1 => ?_
    tm_at "v"
    refine WB.add_int ?_
    have he : e = 0 \/ e = 1 := by tm_at "o"
    rcases he with rfl | rfl
    .refine WB.mul_one ?_
     tm_at "v"
     exact Fin.mk (by tm_at "w") (q _ _ (.dq T) nM hT (Nat.succ_le_succ hh))
    .refine WB.mul_two ?_
     tm_at "v"
     exact Fin.mk (by tm_at "w") (q _ _ (.bP T T) nM ⟨rfl, hT⟩ (by show max (ht T) (ht T) + 1 <= d + 1; tm_at "o"))
   .exact Fin.mk (by tm_at "w") (q _ _ (.box T) xM hT (Nat.succ_le_succ hh))
   .exact i4 (n := 0) ok (by tm_at "r") (Fin.mk (by tm_at "w") (q _ _ (.bU (some (oS "'static")) T) xM ⟨rfl, hT⟩ (Nat.succ_le_succ hh)))
end
section
noncomputable abbrev hG (nm ac lv bv sv : AV) : List (Str × AV) := [(oS "name", nm), (oS "arg_count", ac), (oS "locals", lv), (oS "blocks", bv), (oS "spots", sv)]
theorem vG (ok : Ok G) {a d : Addr} {nm ac lv bv sv : AV} {ls : List AV} (hl : cZ lv = some ls) (hz : ls.length <= sizeLine) (hb : bv.isNone = false) (hs : sv.isNone = false) (hR : aj A (n + 1))
  (q : Q (.raw (.ref a)) ((a, .inst 336 d) :: (d, .fld (hG nm ac (.lst ls) bv sv)) :: Γ)) :
  WF G A X (.ref 290) [.raw (.ref a), nm, ac, lv, bv, sv] ((a, .inst 336 d) :: (d, .fld []) :: Γ) fun v ae => v = .raw .none /\ Q (.raw (.ref a)) ae := by
 have b1 := mz ok
 refine WF.def (ns := [oS "self", oS "name", oS "arg_count", oS "locals_told", oS "blocks", oS "spots"]) (ys := []) (ds := []) (by tm_at "Kr") (by tm_at "Kk") hR (by intro s S _ _ _ _ _ _ ; exact kp_binds S.iC (fun _ => by tm_at "Kk")) (fun _ _ => .nil) rfl (by tm_at "dk") (by dsimp only [List.zip, List.zipWith, List.cons_append, List.nil_append, List.append_nil]; tm_at "lay") ?_
 tm_at "go"
 tm_at "v"
 refine WC.dK hl hz ?_
 tm_at "v"
 exact Fin.mk (by tm_at "w") ⟨rfl, q⟩
theorem tM (ok : Ok G) {a d : Addr} {nm ac lv bv : AV} {ls : List AV} (hl : cZ lv = some ls) (hz : ls.length <= sizeLine) (hb : bv.isNone = false) (hR : aj A (n + 1))
  (q : ∀ e, Q (.raw (.ref a)) ((a, .inst 336 d) :: (d, .fld (hG nm ac (.lst ls) bv (dD e (ar G.w.params [])))) :: Γ)) :
  WF G A X (.ref 290) [.raw (.ref a), nm, ac, lv, bv] ((a, .inst 336 d) :: (d, .fld []) :: Γ) fun v ae => v = .raw .none /\ Q (.raw (.ref a)) ae := by
 have b1 := mz ok
 refine WF.def (ns := [oS "self", oS "name", oS "arg_count", oS "locals_told", oS "blocks", oS "spots"]) (ys := [.raw .none]) (ds := [.none]) (by tm_at "Kr") (by tm_at "Kk") hR (by intro s S _ _ _ _ _ ; exact kp_binds S.iC (fun _ => by tm_at "Kk")) (fun _ _ => .one (.raw _)) rfl (by tm_at "dk") (by dsimp only [List.zip, List.zipWith, List.cons_append, List.nil_append, List.append_nil]; tm_at "lay") ?_
 tm_at "go"
 tm_at "v"
 refine WC.dK hl hz ?_
 tm_at "v"
 refine WE.ident (WE.rm ⟨_, rfl, fun e => ?_⟩)
 tm_at "v"
 exact Fin.mk (by tm_at "w") ⟨rfl, q e⟩
def oK (ok : Ok G) {nm ac lv bv sv : AV} {ls : List AV} (hl : cZ lv = some ls) (hz : ls.length <= sizeLine) (hb : bv.isNone = false) (hs : sv.isNone = false) (hR : aj A (n + 2))
  (q : ∀ a d, Q (.raw (.ref a)) ((a, .inst 336 d) :: (d, .fld (hG nm ac (.lst ls) bv sv)) :: Γ)) : WC G A X (.ref 336) [nm, ac, lv, bv, sv] Γ Q :=
 WC.make (n := n + 1) hR (by tm_at "Kk") (by tm_at "Kk") (by tm_at "Kk") fun a d A' X' fZ => vG ok hl hz hb hs fZ (q a d)
def vH (ok : Ok G) {nm ac lv bv : AV} {ls : List AV} (hl : cZ lv = some ls) (hz : ls.length <= sizeLine) (hb : bv.isNone = false) (hR : aj A (n + 2))
  (q : ∀ a d e, Q (.raw (.ref a)) ((a, .inst 336 d) :: (d, .fld (hG nm ac (.lst ls) bv (dD e (ar G.w.params [])))) :: Γ)) : WC G A X (.ref 336) [nm, ac, lv, bv] Γ Q :=
 WC.make (n := n + 1) hR (by tm_at "Kk") (by tm_at "Kk") (by tm_at "Kk") fun a d A' X' fZ => tM ok hl hz hb fZ (q a d)
noncomputable def iQ (P : Params) (nm ac : AV) (ls : List AV) (bv sv : AV) : AV := gj P 336 (hG nm ac (.lst ls) bv sv)
def tN (ok : Ok G) {nm ac lv bv sv : AV} {ls : List AV} (hl : cZ lv = some ls) (hz : ls.length <= sizeLine) (hb : bv.isNone = false) (hs : sv.isNone = false) (hR : aj A (n + 2))
  (q : Q (iQ G.w.params nm ac ls bv sv) Γ) : WC G A X (.ref 336) [nm, ac, lv, bv, sv] Γ Q :=
 WC.fin (oK ok hl hz hb hs hR fun a d => Fin.d8 (.refl _) kL.inst q)
def i5 (ok : Ok G) {nm ac lv bv : AV} {ls : List AV} (hl : cZ lv = some ls) (hz : ls.length <= sizeLine) (hb : bv.isNone = false) (hR : aj A (n + 2))
  (q : ∀ e, Q (iQ G.w.params nm ac ls bv (dD e (ar G.w.params []))) Γ) : WC G A X (.ref 336) [nm, ac, lv, bv] Γ Q :=
 WC.fin (vH ok hl hz hb hR fun a d e => Fin.d8 (.refl _) kL.inst (q e))
end
section
noncomputable abbrev G4 (inner : AV) : List (Str × AV) := [(oS "path", .str (oS "G")), (oS "module", .str (oS "")), (oS "regions", .tup [.str (oS "'a")]), (oS "params", .tup [.str (oS "T")]), (oS "variants", .lst [.tup [.str (oS "G"), .str (oS "tuple"), .lst [.tup [.str (oS "0"), inner]]]]), (oS "publics", .tup []), (oS "is_enum", .raw (.bool false))]
noncomputable def qf : Ty := .ref (some (oS "'a")) false (.par (oS "T"))
noncomputable def nN (P : Params) : AV := gj P 484 (G4 (enc qf))
noncomputable def lF (ns : List Str) : AV := .lst (ns.map fun n => .tup [.str n, .tup []])
noncomputable abbrev G5 (path : Str) (ns : List Str) : List (Str × AV) := [(oS "path", .str path), (oS "regions", .tup []), (oS "params", lF ns), (oS "own", lF ns), (oS "inputs", .tup []), (oS "output", enc .dj), (oS "self_kind", .raw .none), (oS "has_body", .raw (.bool true))]
noncomputable def rW (P : Params) (path : Str) (ns : List Str) : AV := gj P 505 (G5 path ns)
noncomputable abbrev f7 : List (Str × List Str) := [(oS "f", [oS "A", oS "B"]), (oS "g", [oS "T"]), (oS "h", [oS "T"]), (oS "main", []), (oS "none", [])]
noncomputable abbrev uB (P : Params) : List (Str × AV) := f7.map fun p => (p.1, rW P p.1 p.2)
noncomputable abbrev BV (P : Params) : List (Str × AV) := [(oS "modules", .raw .none), (oS "adts", ar P [(oS "G", nN P)]), (oS "variants", ar P []), (oS "sigs", ar P (uB P)), (oS "traits", ar P []), (oS "impls", .lst []), (oS "consts", ar P []), (oS "bodies", ar P [])]
noncomputable def bR (P : Params) : AV := gj P 534 (BV P)
def tO (ok : Ok G) {r : dr} {t : Ty} (hR : aj A (n + 1)) (q : Q (.lst [.tup [.str (oS "0"), enc qf]]) Γ) : WC G A X (.ref 224) [enc (.bU r t), .int 0, bR G.w.params] Γ Q := by
 tm_at "def3"
 dsimp only [bR, enc]
 tm_at "v"
 refine WB.item_dict .d8 (y := nN G.w.params) rfl ?_
 dsimp only [nN]
 tm_at "v"
 tm_at "fq"
def xN (ok : Ok G) {T : AV} (hR : aj A (n + 1)) (q : Q (.raw (.bool false)) Γ) : WC G A X (.ref 236) [T, bR G.w.params] Γ Q := by
 tm_at "def2"
 dsimp only [bR]
 tm_at "v"
 refine W1.DB ‹_› ?_
 tm_at "v"
 refine ⟨rfl, ?_⟩
 tm_at "v"
 tm_at "fq"
def vI (ok : Ok G) {T : Ty} (hR : aj A (n + 1)) (q : Q (.raw .none) Γ) : WC G A X (.ref 275) [bR G.w.params, enc T] Γ Q := by
 have g1 := lq ok
 tm_at "def2"
 by_cases ha : tag T = (oS "adt")
 .obtain ⟨r, t, rfl⟩ := uz ha
  dsimp only [bR, enc]
  tm_at "v"
  refine WB.iV .d8 ?_
  rw [show (!(bH ([] : List (Str × AV)) (oS "Drop")).isSome) = true from rfl]
  tm_at "v"
  tm_at "fq"
 .tm_at "v"
  tm_at "fq"
end
section
def oL (ok : Ok G) {C t0 : Addr} {msg : AV} (hC : n8 G.K C) (h1 : cP G.K C (oS "message") = true) (h2 : cP G.K C (oS "spot") = true) (hR : aj A (n + 1)) {a : Addr}
  (q : ∀ d t, Q (.raw (.ref a)) ((d, .fld [(oS "message", msg), (oS "spot", .int 0)]) :: (a, .obj (bA C (some d) t)) :: Γ)) :
  WC G A X (.ref 36) [.raw (.ref a), msg] ((a, .obj (bA C none t0)) :: Γ) fun v ae => v = .raw .none /\ Q (.raw (.ref a)) ae := by
 have b1 := rQ ok
 refine .jh (WF.def (ns := [oS "self", oS "message", oS "spot"]) (ys := [.int 0]) (ds := [.int 0 208]) (by tm_at "Kr") (by tm_at "Kk") hR (by intro s S _ _ ; exact kp_binds S.iC (fun _ => by tm_at "Kk")) (fun _ _ => .one (.int _ _)) rfl (by tm_at "dk") (by dsimp only [List.zip, List.zipWith, List.cons_append, List.nil_append, List.append_nil]; tm_at "lay") ?_)
 tm_at "go"
 refine WS.cons (W1.expr ‹_› ?_)
 tm_at "v"
 refine WM.typ (v := .builtin "Exception.__init__") (by kernel_rfl) (by tm_at "dk") (by tm_at "Kk") rfl (fun _ => .builtin) ?_
 tm_at "v"
 refine WC.zo hC (by tm_at "p") fun t1 => ?_
 refine WS.cons (W1.assign ?_ (by exact Eq.refl true))
 tm_at "name"
 refine WA.F6 ?_
 tm_at "v"
 refine .mk (by tm_at "p") h1 fun d => ?_
 refine WS.cons (W1.assign ?_ (by exact Eq.refl true))
 tm_at "name"
 refine WA.F7 ?_
 tm_at "v"
 refine .mk (by tm_at "p") (by tm_at "p") h2 (Nat.le_of_ble_eq_true rfl) ?_
 tm_at "v"
 exact Fin.mk (ae := (d, .fld [(oS "message", msg), (oS "spot", .int 0)]) :: (a, .obj (bA C (some d) t1)) :: Γ) (ao.pick .here (ao.pick .here (ao.drop (.refl _)))) ⟨rfl, q d t1⟩
def uC (ok : Ok G) : n8 G.K 39 := by
 rw [Ok.K ok]
 exact .mk rfl (by tm_at "dk") (.inl rfl)
def xO (ok : Ok G) : n8 G.K 52 := by
 rw [Ok.K ok]
 exact .mk rfl (by tm_at "dk") (.inr rfl)
def rX (ok : Ok G) {msg : AV} (hR : aj A (n + 2)) (q : ∀ e d t, Q (.raw (.ref e)) ((d, .fld [(oS "message", msg), (oS "spot", .int 0)]) :: (e, .obj (bA 39 (some d) t)) :: Γ)) : WC G A X (.ref 39) [msg] Γ Q :=
 WC.uq (n := n + 1) (fI := 36) hR (uC ok) (by tm_at "Kk") (by tm_at "Kk") (short rfl) fun a t A' X' fZ => oL ok (uC ok) (by tm_at "Kk") (by tm_at "Kk") fZ fun d t => q a d t
def vJ (ok : Ok G) {msg : AV} (hR : aj A (n + 2)) (q : ∀ e d t, Q (.raw (.ref e)) ((d, .fld [(oS "message", msg), (oS "spot", .int 0)]) :: (e, .obj (bA 52 (some d) t)) :: Γ)) : WC G A X (.ref 52) [msg] Γ Q :=
 WC.uq (n := n + 1) (fI := 36) hR (xO ok) (by tm_at "Kk") (by tm_at "Kk") (short rfl) fun a t A' X' fZ => oL ok (xO ok) (by tm_at "Kk") (by tm_at "Kk") fZ fun d t => q a d t
end
section
noncomputable def aV : Ty -> Nat
 | .i _ => 1
 | .bool => 1
 | .par _ => 1
 | .ref r m t => aV t + 1
 | .box t => aV t + 1
 | .arr t n => aV t + 1
 | .dj => 1
 | .dq t => aV t + 1
 | .bP t u => aV t + aV u + 1
 | .bU r t => aV t + 1
noncomputable def cR (ts : List Ty) : Nat := (ts.map aV).sum
def km (ts us : List Ty) : cR (ts ++ us) = cR ts + cR us := by (dsimp only [cR]; simp)
def tQ (T : Ty) : aV T = cR (parts T) + 1 := by cases T <;> (dsimp only [aV, cR, parts]; simp)
def xP {T t : Ty} (h : fy T = true) (ht : t ∈ parts T) : fy t = true := by
 cases T <;> (dsimp only [parts] at ht; simp only [List.mem_cons, List.not_mem_nil, or_false] at ht) <;> (dsimp only [fy] at h; try simp only [Bool.and_eq_true] at h) <;> (first | (subst ht; first | exact h.2 | exact h) | (rcases ht with rfl | rfl; exact h.1; exact h.2))
def oM (ts : List Ty) : ts.length <= cR ts := by
 induction ts with
 | nil => exact Nat.zero_le _
 | cons t r ih =>
  have : 1 <= aV t := by cases t <;> (dsimp only [aV]; simp)
  (dsimp only [cR] at ih ⊢; simp at ih ⊢); tm_at "o"
theorem _root_.Mine.RX.uD {bM : aa} {env : Env} {L : Addr} {cd : Value} {A' : Around} {X' : Value -> Shared -> Prop} {fs : List Env} (r : RX G A' X' bM Γ) (d : iO G A X env L cd A' X') (hA : A.frames = some fs) : RX G A' (xh G A' env X') bM Γ := RX.pM d r hA
structure zJ (T : Ty) (ts : List Ty) (many : Nat) : Prop where
 sum : many + cR ts = aV T
 le : many <= 120
 ok : ∀ t ∈ ts, fy t = true
def iz {us : List Ty} {t : Ty} : cR (us ++ [t]) = cR us + (cR (parts t) + 1) := by rw [km, <- tQ]; exact congrArg _ (Nat.add_zero _)
def xQ {us : List Ty} {t : Ty} : cR (us ++ parts t) < cR (us ++ [t]) := by rw [iz, km]; exact Nat.lt_succ_self _
def zJ.more {T t : Ty} {us : List Ty} {many : Nat} (p : zJ T (us ++ [t]) many) (h : ¬ 120 < many + 1) : zJ T (us ++ parts t) (many + 1) :=
 ⟨by have := p.sum; rw [iz] at this; rw [km]; tm_at "o", Nat.not_lt.mp h, fun u hu => (List.mem_append.mp hu).elim (fun hu => p.ok u (List.mem_append_left _ hu)) (xP (p.ok t (List.mem_append_right _ (.head _))))⟩
def zJ.big {T t : Ty} {us : List Ty} {many : Nat} (p : zJ T (us ++ [t]) many) (h : 120 < many + 1) : 120 < aV T := by
 have := p.sum
 rw [iz] at this
 tm_at "o"
theorem zJ.cR {T t : Ty} {us : List Ty} {many : Nat} (p : zJ T (us ++ [t]) many) (h : aV T <= 1000) : us.length + (parts t).length <= 1000 := by
 have := p.sum
 rw [iz] at this
 have := oM us
 have := oM (parts t)
 tm_at "o"
inductive Ia (L a : Addr) (T : Ty) (Γ : aa) : Nat -> aa -> Prop
 | mk {ts : List Ty} {many : Nat} (p : zJ T ts many) : Ia L a T Γ (cR ts) ((L, .ns [(oS "T", some (enc T)), (oS "left", some (.raw (.ref a))), (oS "many", some (.int (Int.ofNat many)))]) :: (a, .list (ts.map enc)) :: Γ)
def mH (ok : Ok G) {bM : aa} (T : Ty) (hT : fy T = true) (hz : aV T <= 1000) (hR : aj A (n + 4)) (hx : 120 < aV T -> RX G A X bM Γ) (q : aV T <= 120 -> Q (.raw .none) Γ) : WC G A X (.ref 401) [enc T] Γ Q := by
 have g1 := pX ok
 have g2 := kN ok
 have g3 := cX ok
 tm_at "def1X"
 intro L env A' X' eL fZ hD
 tm_at "go0"
 tm_at "v"
 refine WE.cK ?_
 tm_at "v"
 intro a
 tm_at "v"
 tm_at "st2"
 refine WS.cons (W1.xc (Ia L a T Γ) ⟨_, .mk (ts := [T]) (many := 0) ⟨Nat.zero_add _, Nat.zero_le _, fun t ht => List.mem_singleton.mp ht ▸ hT⟩⟩ ?_)
 intro k ae hI
 cases hI with | @mk ts many p => ?_
 tm_at "v"
 refine WE.list ?_
 tm_at "v"
 refine WB.left ‹_› (by tm_at "p") p.ok (fun e => ?_) fun us t e => ?_
 .have hq := q (by rw [<- p.sum, e]; exact p.le)
  tm_at "v"
  exact Fin.mk (by tm_at "w") hq
 have p1 : zJ T (us ++ [t]) many := e ▸ p
 have yY := p1.cR hz
 tm_at "v"
 refine .mk (.mk (by tm_at "p") (show nZ _ _ (AV.int (Int.ofNat (many + 1))) _ by tm_at "put") ?_)
 tm_at "v"
 refine WB.gt_int ?_
 by_cases hb : 120 < many + 1
 .refine oH (w := .raw (.bool true)) (congrArg (fun b => AV.raw (.bool b)) (decide_eq_true (by show (120 : Int) < ((many + 1 : Nat) : Int); tm_at "o"))) ?_
  have r := hx (p1.big hb)
  obtain ⟨fs, tn⟩ := r.frames
  refine WS.cons (W1.raise ‹_› ?_)
  tm_at "v"
  refine rX (n := n) ok (by tm_at "r") fun e d t0 => ?_
  refine .mk (bM := bM) (by tm_at "p") (uC ok) ?_
  exact (r.into hD eL.kind (m := [(oS "T", some (enc T)), (oS "left", some (.raw (.ref a))), (oS "many", some (.int (Int.ofNat (many + 1))))]) (by tm_at "m") (by tm_at "memh")).uD hD tn
 .refine oH (w := .raw (.bool false)) (congrArg (fun b => AV.raw (.bool b)) (decide_eq_false (by show ¬ (120 : Int) < ((many + 1 : Nat) : Int); tm_at "o"))) ?_
  tm_at "v"
  refine WM.extend (by tm_at "p") ?_
  tm_at "v"
  refine WM.pop (by tm_at "p") ?_
  tm_at "v"
  refine WC.tJ e (by tm_at "p") (by tm_at "o") ?_
  tm_at "v"
  refine dt ok (n := n) (by tm_at "r") t ?_
  tm_at "v"
  refine WC.qa (parts t) (by tm_at "p") rfl (by tm_at "o") ?_
  tm_at "v"
  exact zj (by tm_at "w") (e ▸ xQ) (.mk (p1.more hb))
end
section
def rY (ok : Ok G) {path : Str} {ns : List Str} (hs : bH (uB G.w.params) path = some (rW G.w.params path ns)) (hl : ns.length <= 60) (hR : aj A (n + 2)) (q : Q (.lst (ns.map .str)) Γ) : WC G A X (.ref 251) [bR G.w.params, .str path] Γ Q := by
 tm_at "def2"
 dsimp only [bR]
 tm_at "v"
 (refine WE.aP Str 1 [oS "name", oS "bounds"] [(oS ".0", .local), (oS "name", .local), (oS "bounds", .local)] _ ‹_› (by kernel_rfl) (by tm_at "dk") (by tm_at "dk") (by tm_at "lent") (by tm_at "dm") (by tm_at "dk") ?_)
 tm_at "v"
 refine WB.item_dict .d8 (y := rW G.w.params path ns) hs ?_
 dsimp only [rW]
 tm_at "v"
 refine aL.fn (ts := ns) (e := fun n => .tup [.str n, .tup []]) (e' := .str) (au.seq ‹_› rfl) (Nat.le_trans hl (by decide)) (fun X' aF D C acc dC t cp => ?_) ?_
 .tm_at "turn"
  intro I o
  tm_at "v"
  tm_at "endturn"
 tm_at "v"
 tm_at "fq"
def zK (ns : List Str) (ts : List Ty) : ns.zip (ts.map enc) = bF (ns.zip ts) := by
 induction ns generalizing ts with
 | nil => rfl
 | cons n ns ih => cases ts with
  | nil => rfl
  | cons t ts => exact congrArg ((n, enc t) :: ·) (ih ts)
def qg : ∀ (ps es : List (Str × AV)), ((es ++ ps).map (·.1)).Nodup -> putAll es ps = es ++ ps := by
 intro ps; induction ps with
 | nil => intro es _; (dsimp only [putAll]; simp)
 | cons p ps KI =>
  intro es nd
  obtain ⟨k, y⟩ := p
  have hk : k ∉ es.map (·.1) := fun h => by
   rw [List.map_append, List.nodup_append] at nd
   exact nd.2.2 k h k (.head _) rfl
  have hp : bN es k y = es ++ [(k, y)] := by
   clear nd
   induction es with
   | nil => rfl
   | cons e es ih =>
    obtain ⟨k', z⟩ := e
    simp only [List.map_cons, List.mem_cons, not_or] at hk
    dsimp only [bN]
    rw [if_neg (Ne.symm hk.1), ih hk.2]; rfl
  show putAll (bN es k y) ps = _
  rw [hp, KI _ (by simpa using nd)]
  simp
def vK {α β : Type} : ∀ {ns : List α} (ts : List β), ns.Nodup -> ((ns.zip ts).map (·.1)).Nodup := by
 intro ns; induction ns with
 | nil => intro ts _; exact .nil
 | cons n ns ih =>
  intro ts nd
  cases ts with
  | nil => exact .nil
  | cons t ts =>
  have dg := List.nodup_cons.mp nd
  refine List.nodup_cons.mpr ⟨fun h => dg.1 ?_, ih ts dg.2⟩
  obtain ⟨⟨a, b⟩, hp, e⟩ := List.mem_map.mp h
  have := (List.of_mem_zip hp).1
  dsimp only at e
  rw [<- e]; exact this
def mI {ns : List Str} (nd : ns.Nodup) (ts : List Ty) : putAll [] (ns.zip (ts.map enc)) = bF (ns.zip ts) := by
 rw [qg _ _ (by simpa using vK _ nd), <- zK]; rfl
def lx (ok : Ok G) {bM : aa} {path : Str} {ns : List Str} {ts : List Ty} (hs : bH (uB G.w.params) path = some (rW G.w.params path ns)) (hl : ns.length <= 60) (EK : ts.length <= 60) (hn : ns.Nodup) (hp : path.length <= 1000) (hR : aj A (n + 4))
  (hx : ns.length ≠ ts.length -> RX G A X bM Γ) (q : ns.length = ts.length -> Q (ar G.w.params (bF (ns.zip ts))) Γ) : WC G A X (.ref 258) [bR G.w.params, .str path, .tup (ts.map enc)] Γ Q := by
 have g1 := nH ok
 have g2 := pS ok
 have b1 := iP ok
 have b2 := uy ok
 have b3 := mA ok
 tm_at "def3X"
 intro L env A' X' eL fZ hD
 tm_at "go0"
 tm_at "v"
 refine rY ok hs hl (n := n) (by tm_at "r") ?_
 tm_at "v"
 refine WC.cn rfl (by rw [List.length_map]; exact Nat.le_trans hl (by decide)) ?_
 tm_at "v"
 refine WC.cn rfl (by rw [List.length_map]; exact Nat.le_trans EK (by decide)) ?_
 rw [List.length_map, List.length_map]
 refine WB.ne_int ?_
 by_cases he : ns.length = ts.length
 .rw [show (!decide ((ns.length : Int) = (ts.length : Int))) = false from by rw [he]; simp]
  have hq := q he
  tm_at "v"
  refine WC.zip rfl rfl fun v ae hz => ?_
  tm_at "v"
  refine WC.jv ‹_› hz (strs_map _) (by rw [List.length_map]; exact Nat.le_trans hl (by decide)) ?_
  rw [mI hn]
  exact Fin.mk (by tm_at "w") hq
 .rw [show (!decide ((ns.length : Int) = (ts.length : Int))) = true from by simp; tm_at "o"]
  refine WS.cons (W1.raise ‹_› ?_)
  tm_at "v"
  refine WB.add_str (DT (by have : (oS "as many types as parameters are wanted for ").length <= 100 := (by tm_at "dk"); tm_at "o")) ?_
  tm_at "v"
  refine vJ (n := n) ok (by tm_at "r") fun e d t0 => ?_
  refine .mk (bM := bM) (by tm_at "p") (xO ok) ?_
  exact (hx he).into hD eL.kind (by tm_at "m") (by tm_at "memh")
noncomputable def fA (path : Str) (ts : List Ty) : AV := .tup [.str (oS "fn"), .str path, .tup (ts.map enc)]
def tR (ok : Ok G) (tab : List (Str × Ty)) (path : Str) (ts : List Ty) {m : Nat} (hz : ts.length <= 60) (hm : ∀ t ∈ ts, ht t + 3 <= m) (hR : aj A (m + 2)) (q : Q (fA path (ts.map (bh tab))) Γ) : WC G A X (.ref 263) [fA path ts, ar G.w.params (bF tab)] Γ Q := by
 have g1 := dJ ok
 have b1 := iq ok
 dsimp only [fA] at q ⊢
 tm_at "def2"
 tm_at "v"
 (refine WE.aP Ty 1 [oS "T"] [(oS ".0", .local), (oS "T", .local), (oS "substituted", .globalImplicit), (oS "table", .cell)] _ ‹_› (by kernel_rfl) (by tm_at "dk") (by tm_at "dk") (by tm_at "lent") (by tm_at "dm") (by tm_at "dk") ?_)
 tm_at "v"
 refine aL.fn (ts := ts) (e := enc) (e' := fun t => enc (bh tab t)) (au.seq ‹_› rfl) (Nat.le_trans hz (by decide)) (fun X' aF D C acc dC t cp => ?_) ?_
 .tm_at "turn"
  intro I o
  have h1 := hm t cp
  tm_at "v"
  exact gX ok tab t (by tm_at "r") (by tm_at "endturn")
 rw [mC enc (bh tab)]
 tm_at "v"
 refine WC.ei (by rw [List.length_map, List.length_map]; exact Nat.le_trans hz (by decide)) ?_
 tm_at "v"
 tm_at "fq"
def qh (ok : Ok G) {w : AV} (path : Str) (ts : List Ty) (hR : aj A (n + 1)) (q : Q (fA path ts) Γ) : WC G A X (.ref 268) [w, fA path ts] Γ Q := by
 dsimp only [fA] at q ⊢
 tm_at "def2"
 tm_at "v"
 tm_at "fq"
end
section
def zL (ok : Ok G) {a d : Addr} {R R' : aa} {nm ac bv sv x : AV} {xs ls : List AV} {k : Int} (p1 : aC a (.inst 336 d) Γ R) (p2 : aC d (.fld (hG nm ac (.lst ls) bv sv)) Γ R') (h0 : 0 <= k) (h1 : k < 1000) (hl : ls[k.toNat]? = some (.tup (x :: xs))) (hR : aj A (n + 1)) (q : Q x Γ) :
  WC G A X (.ref 297) [.raw (.ref a), .int k] Γ Q := by
 tm_at "def2"
 tm_at "v"
 refine WB.ij h0 (by tm_at "o") hl ?_
 tm_at "v"
 tm_at "fq"
def tS (ok : Ok G) {a d : Addr} {R R' : aa} {nm ac bv sv w : AV} {ls xs : List AV} {k : Int} {x : AV} (p1 : aC a (.inst 336 d) Γ R) (p2 : aC d (.fld (hG nm ac (.lst ls) bv sv)) Γ R') (h0 : 0 <= k) (h1 : k < 1000) (hl : ls[k.toNat]? = some (.tup (x :: xs))) (hR : aj A (n + 2)) (q : Q x Γ) :
  WC G A X (.ref 361) [.raw (.ref a), .tup [.int k, .tup []], w] Γ Q := by
 tm_at "def3"
 tm_at "v"
 refine WM.inst (f := 297) (.own (by tm_at "p") (by tm_at "p")) rfl (by tm_at "Kk") ?_
 tm_at "v"
 refine zL ok (n := n) (by tm_at "p") (by tm_at "p") h0 h1 hl (by tm_at "r") ?_
 tm_at "v"
 tm_at "st2"
 refine WS.cons (W1.DB ‹_› ?_)
 tm_at "v"
 refine ⟨rfl, ?_⟩
 tm_at "v"
 tm_at "fq"
def kn (ok : Ok G) {cv : Value} {nm : Str} (hR : aj A (n + 4)) (q : Q (enc (.par nm)) Γ) : WC G A X (.ref 184) [enc (.par nm), .raw cv] Γ Q := by
 have gp := cX ok
 have gs := cB ok
 have gr := ip ok
 tm_at "def2"
 dsimp only [enc]
 tm_at "v"
 (refine WE.aP Ty 1 [oS "part"] [(oS ".0", .local), (oS "part", .local), (oS "with_regions", .globalImplicit), (oS "change", .cell)] _ ‹_› (by kernel_rfl) (by tm_at "dk") (by tm_at "dk") (by tm_at "lent") (by tm_at "dm") (by tm_at "dk") ?_)
 tm_at "v"
 refine dt ok (n := n) (by tm_at "r") (.par nm) (aL.fn (ts := []) (e := enc) (e' := enc) (au.seq ‹_› rfl) (short rfl) (fun X' aF D C acc dC t cp => nomatch cp) ?_)
 tm_at "v"
 exact iu ok (n := n) (by tm_at "r") (.par nm) [] rfl (Fin.mk (by tm_at "w") q)
def ko (ok : Ok G) {cv : Value} {nm : Str} {r r' : dr} {m : Bool} (hR : aj A (n + 6)) (hk : ∀ ae, (∀ p ∈ Γ, p ∈ ae) -> Keeps G cv ae) (hc : ∀ A' X' Q' ae, (∀ p ∈ Γ, p ∈ ae) -> aj A' (n + 1) -> Q' (eM r') ae -> WC G A' X' cv [eM r] ae Q')
  (q : Q (enc (.ref r' m (.par nm))) Γ) : WC G A X (.ref 184) [enc (.ref r m (.par nm)), .raw cv] Γ Q := by
 have gp := cX ok
 have gs := cB ok
 have gr := ip ok
 tm_at "def2"
 dsimp only [enc]
 tm_at "v"
 refine ⟨hk _ (by tm_at "memh"), hc _ _ _ _ (by tm_at "memh") (by tm_at "r") ?_⟩
 tm_at "v"
 (refine WE.aP Ty 1 [oS "part"] [(oS ".0", .local), (oS "part", .local), (oS "with_regions", .globalImplicit), (oS "change", .cell)] _ ‹_› (by kernel_rfl) (by tm_at "dk") (by tm_at "dk") (by tm_at "lent") (by tm_at "dm") (by tm_at "dk") ?_)
 tm_at "v"
 refine dt ok (n := n) (by tm_at "r") (.ref r' m (.par nm)) (aL.fn (ts := [.par nm]) (e := enc) (e' := enc) (au.seq ‹_› rfl) (short rfl) (fun X' aF D C acc dC t cp => ?_) ?_)
 .cases List.mem_singleton.mp cp
  tm_at "turn"
  intro I o
  tm_at "v"
  exact kn ok (n := n) (by tm_at "r") (by tm_at "endturn")
 .tm_at "v"
  exact iu ok (n := n) (by tm_at "r") (.ref r' m (.par nm)) [.par nm] (by rfl) (Fin.mk (by tm_at "w") q)
end
section
noncomputable abbrev uE : Str := oS "fields_of" ++ oS ".<locals>." ++ oS "put_in"
noncomputable abbrev xR : Pos := ⟨253, 4, 254, 42⟩
abbrev cb (G : Base) : Prop := lA G 228 226 uE xR
def oN (ok : Ok G) (T : cb G) {t : Ty} {m : Nat} (hm : ht t + 12 <= m) (hR : aj A (m + 1)) (q : Q (.lst [.tup [.str (oS "0"), enc (.ref none false t)]]) Γ) : WC G A X (.ref 229) [enc (.bU none t), .int 0, bR G.w.params] Γ Q := by
 have g1 := pT ok
 have b1 := mA ok
 have b2 := uy ok
 have gs := dJ ok
 have gw := cB ok
 refine WC.DF (by tm_at "Kr") (by tm_at "Kk") rfl (n := m) (by tm_at "r") (by intro s v1 v2 v3 S; exact BindsTo.of_eq (by kernel_rfl)) (by tm_at "dk") (by tm_at "lay") ?_
 intro L env A' X' eL fZ oh DW
 tm_at "go0"
 dsimp only [bR, enc]
 tm_at "v"
 refine WB.item_dict .d8 (y := nN G.w.params) rfl ?_
 dsimp only [nN]
 tm_at "v"
 refine WC.zip rfl rfl fun v1 pR yY => ?_
 tm_at "v"
 refine WC.jv ‹_› yY rfl (short rfl) ?_
 tm_at "v"
 refine WC.zip rfl rfl fun v2 wc Fo => ?_
 tm_at "v"
 refine WC.jv ‹_› Fo rfl (short rfl) ?_
 tm_at "v"
 refine W1.xt T eL oh (rH eL (k := .cell) (by tm_at "m") rfl DW) (by tm_at "lent") (by tm_at "m") (by tm_at "m") (by tm_at "p") fun f => ?_
 tm_at "v"
 (refine WE.aP Unit 1 [oS "name", oS "part"] [(oS ".0", .local), (oS "name", .local), (oS "part", .local), (oS "substituted", .globalImplicit), (oS "with_regions", .globalImplicit), (oS "put_in", .cell), (oS "types", .cell)] _ ‹_› (by kernel_rfl) (by tm_at "dk") (by tm_at "dk") (by tm_at "lent") (by tm_at "dm") (by tm_at "dk") ?_)
 tm_at "v"
 refine tO ok (r := none) (t := t) (n := 1) (by tm_at "r") ?_
 refine aL.fn (ts := [()]) (e := fun _ => .tup [.str (oS "0"), enc qf]) (e' := fun _ => .tup [.str (oS "0"), enc (.ref none false t)]) (au.seq ‹_› rfl) (short rfl) (fun X' aF D C acc dC t' cp => ?_) ?_
 .tm_at "turn"
  intro I o
  tm_at "v"
  refine ko ok (nm := (oS "T")) (r := some (oS "'a")) (r' := none) (m := false) (n := m - 10) (by tm_at "r") (fun ae h => Keeps.yO (h _ (by tm_at "m"))) (fun A2 X2 Q2 ae h KJ q2 => ?_) ?_
  .obtain ⟨R1, KL⟩ := kK (h (f, yO _ _ _ _ _ _) (by tm_at "m"))
   obtain ⟨R2, LQ⟩ := kK (h (L + 1 + 1 + 1, .cell (some (ar G.w.params (putAll [] ([oS "'a"].zip [eM none]))))) (by tm_at "m"))
   refine WC.GF KL KJ (fun doc pm cd ct s v1 => BindsTo.of_eq (by kernel_rfl)) (by tm_at "dk") (by tm_at "m") (by decide) (by tm_at "lay") (by tm_at "dm") fun L2 KN A3 X3 LR LS => ?_
   dsimp only [eM]
   tm_at "v"
   refine WM.get .d8 ?_
   tm_at "v"
   refine WC.Bs .d8 (Fin.mk (ae := ae) (by tm_at "w") ?_)
   exact q2
  .tm_at "v"
   refine gX ok [(oS "T", t)] (.ref none false (.par (oS "T"))) (by dsimp only [ht]; tm_at "r") ?_
   tm_at "v"
   tm_at "endturn"
 .tm_at "v"
  tm_at "fq"
end
section
noncomputable def aQ : Ty -> Bool
 | .i _ => false
 | .bool => false
 | .par _ => true
 | .ref _ _ _ => false
 | .box _ => true
 | .arr t _ => aQ t
 | .dj => false
 | .dq t => aQ t
 | .bP t u => aQ t || aQ u
 | .bU _ _ => false
noncomputable def wt : Ty -> Nat
 | .i _ => 1
 | .bool => 1
 | .par _ => 1
 | .ref _ _ _ => 1
 | .box _ => 1
 | .arr t _ => wt t + 1
 | .dj => 1
 | .dq t => wt t + 1
 | .bP t u => wt t + wt u + 1
 | .bU _ _ => 2
noncomputable def wts (ts : List Ty) : Nat := (ts.map wt).sum
def jL (ts us : List Ty) : wts (ts ++ us) = wts ts + wts us := by (dsimp only [wts]; simp)
def qi (t : Ty) : 1 <= wt t := by cases t <;> (dsimp only [wt]; simp)
def zM (ts : List Ty) : ts.length <= wts ts := by
 induction ts with
 | nil => exact Nat.zero_le _
 | cons t r ih => have := qi t; (dsimp only [wts] at ih ⊢; simp at ih ⊢); tm_at "o"
def mx {a b c : Nat} (h : a <= c) (h' : b <= c) : max a b <= c := Nat.max_le.mpr ⟨h, h'⟩
def qj {a c : Nat} (h : a <= c) : max a 0 <= c := mx h (Nat.zero_le _)
def nO {b c : Nat} (h : b <= c) : max 0 b <= c := mx (Nat.zero_le _) h
def AP (r : dr) {k : Nat} : (jI r).depth <= k := by cases r <;> exact Nat.zero_le _
def AQ {t u : Nat} {d : Nat} (h : d <= 2 * t + 2) (e : t <= u) : d <= 2 * u + 2 := Nat.le_trans h (Nat.add_le_add_right (Nat.mul_le_mul_left 2 e) 2)
theorem d9 : ∀ T : Ty, (encD T).depth <= 2 * ht T + 2
 | .i _ => Nat.le_of_ble_eq_true rfl
 | .bool => Nat.le_of_ble_eq_true rfl
 | .par _ => Nat.le_of_ble_eq_true rfl
 | .dj => Nat.le_of_ble_eq_true rfl
 | .ref r m t => Nat.succ_le_succ (nO (mx (AP r) (nO (qj (Nat.le_succ_of_le (d9 t))))))
 | .box t => Nat.succ_le_succ (nO (qj (Nat.le_succ_of_le (d9 t))))
 | .arr t n => Nat.succ_le_succ (nO (mx (Nat.le_succ_of_le (d9 t)) (nO (Nat.zero_le _))))
 | .dq t => Nat.succ_le_succ (nO (qj (Nat.succ_le_succ (qj (d9 t)))))
 | .bP t u => Nat.succ_le_succ (nO (qj (Nat.succ_le_succ (mx (AQ (d9 t) (Nat.le_max_left _ _)) (qj (AQ (d9 u) (Nat.le_max_right _ _)))))))
 | .bU r t => Nat.succ_le_succ (nO (nO (mx (Nat.succ_le_succ (qj (AP r))) (qj (Nat.succ_le_succ (qj (d9 t)))))))
noncomputable def f9 (ts : List Ty) : Bool := ts.any aQ
def mJ (ts us : List Ty) : f9 (ts ++ us) = (f9 ts || f9 us) := by (dsimp only [f9]; simp)
structure dQ (ts : List Ty) (h : Nat) : Prop where
 pl : ∀ t ∈ ts, isPlain t = true
 uF : ∀ t ∈ ts, ht t <= h
theorem dQ.parts {us : List Ty} {t : Ty} {h : Nat} (n : dQ (us ++ [t]) h) : dQ (us ++ Mine.parts t) h := by
 refine ⟨fun u hu => ?_, fun u hu => ?_⟩
 .rcases List.mem_append.mp hu with hu | hu
  .exact n.pl u (List.mem_append_left _ hu)
  .exact eV (n.pl t (List.mem_append_right _ (.head _))) hu
 .rcases List.mem_append.mp hu with hu | hu
  .exact n.uF u (List.mem_append_left _ hu)
  .have := cq hu
   have := n.uF t (List.mem_append_right _ (.head _)); tm_at "o"
def dQ.init {us ts : List Ty} {h : Nat} (n : dQ (us ++ ts) h) : dQ us h := ⟨fun u hu => n.pl u (List.mem_append_left _ hu), fun u hu => n.uF u (List.mem_append_left _ hu)⟩
def tT {ts : List Ty} {h : Nat} (n : dQ ts h) : PyData.canLayAll0 (ts.map encD) = true := fz fun t ht => bI (n.pl t ht)
structure tU (T : Ty) (ts ss : List Ty) : Prop where
 len : ss.length + wts ts <= 1000
 box : f9 ts = aQ T
 nt : dQ ts (ht T)
 ns : dQ ss (ht T)
inductive Ib (P : Params) (L a b : Addr) (T : Ty) (Γ : aa) : Nat -> aa -> Prop
 | mk {ts ss : List Ty} {hv vv : Option AV} (n : tU T ts ss) : Ib P L a b T Γ (wts ts) ((L, .ns [(oS "told", some (enc T)), (oS "world", some (bR P)), (oS "seen", some (.raw (.ref a))), (oS "left", some (.raw (.ref b))), (oS "here", hv), (oS "variant", vv)]) :: (b, .list (ts.map enc)) :: (a, .list (ss.map enc)) :: Γ)
def eB (us : List Ty) (t : Ty) : f9 (us ++ [t]) = (f9 us || aQ t) := (mJ us [t]).trans (congrArg _ (Bool.or_false _))
def qk {us ps : List Ty} {t : Ty} (h : wts ps < wt t) : wts (us ++ ps) < wts (us ++ [t]) := by
 rw [jL, jL]
 exact Nat.add_lt_add_left h _
def ql {us : List Ty} {t : Ty} : wts us < wts (us ++ [t]) := Nat.lt_of_le_of_lt (Nat.le_of_eq (by rw [List.append_nil])) (qk (ps := []) (qi t))
def dQ.one {t : Ty} {h : Nat} (h1 : isPlain t = true) (h2 : ht t <= h) : dQ [t] h := ⟨fun u hu => List.mem_singleton.mp hu ▸ h1, fun u hu => List.mem_singleton.mp hu ▸ h2⟩
def dQ.app {us ts : List Ty} {h : Nat} (n : dQ us h) (m : dQ ts h) : dQ (us ++ ts) h := ⟨fun u hu => (List.mem_append.mp hu).elim (n.pl u) (m.pl u), fun u hu => (List.mem_append.mp hu).elim (n.uF u) (m.uF u)⟩
def dQ.last {us : List Ty} {t : Ty} {h : Nat} (n : dQ (us ++ [t]) h) : isPlain t = true /\ ht t <= h := ⟨n.pl t (List.mem_append_right _ (.head _)), n.uF t (List.mem_append_right _ (.head _))⟩
def tU.hit {T t : Ty} {us ss : List Ty} (n : tU T (us ++ [t]) ss) (h : aQ t = true) : aQ T = true := by rw [<- n.box, eB, h, Bool.or_true]
def tU.skip {T t : Ty} {us ss : List Ty} (n : tU T (us ++ [t]) ss) (h : aQ t = false) : tU T us ss := ⟨Nat.le_trans (Nat.add_le_add_left (Nat.le_of_lt ql) _) n.len, by rw [<- n.box, eB, h, Bool.or_false], n.nt.init, n.ns⟩
def tU.more {T t : Ty} {us ss : List Ty} (n : tU T (us ++ [t]) ss) (h : aQ t = f9 (parts t)) (w : wts (parts t) < wt t) : tU T (us ++ parts t) ss := ⟨Nat.le_trans (Nat.add_le_add_left (Nat.le_of_lt (qk w)) _) n.len, by rw [<- n.box, eB, h, mJ], n.nt.parts, n.ns⟩
theorem tU.bU {T u : Ty} {us ss : List Ty} (n : tU T (us ++ [.bU none u]) ss) : tU T (us ++ [.ref none false u]) (ss ++ [.bU none u]) := by
 have h := n.nt.last
 refine ⟨?_, by rw [<- n.box, eB, eB]; rfl, n.nt.init.app (.one h.1 h.2), n.ns.app (.one h.1 h.2)⟩
 have := n.len
 rw [jL] at this
 rw [jL, List.length_append]
 exact (show ss.length + 1 + (wts us + 1) = ss.length + (wts us + 2) by tm_at "o") ▸ this
theorem tU.cR {T t : Ty} {us ss : List Ty} (n : tU T (us ++ [t]) ss) : us.length + 1 <= 1000 /\ ss.length <= 1000 /\ us.length + wt t <= 1000 := by
 have h := n.len
 have h1 := zM us
 have h2 := qi t
 rw [jL, show wts [t] = wt t from rfl] at h
 refine ⟨?_, ?_, ?_⟩ <;> tm_at "o"
inductive KO (t : Ty) : Prop
 | box (h : cM (tag t) [.str (oS "box"), .str (oS "param")] = some true) (b : aQ t = true)
 | more (h : cM (tag t) [.str (oS "box"), .str (oS "param")] = some false) (h' : cM (tag t) [.str (oS "tuple"), .str (oS "array")] = some true) (b : aQ t = f9 (parts t)) (w : wts (parts t) < wt t) (l : (parts t).length <= wt t)
 | bU (r : dr) (u : Ty) (e : t = .bU r u)
 | skip (h : cM (tag t) [.str (oS "box"), .str (oS "param")] = some false) (h' : cM (tag t) [.str (oS "tuple"), .str (oS "array")] = some false) (n : tag t ≠ (oS "adt")) (b : aQ t = false)
set_option tactic.hygienic true in
def BW (t : Ty) : KO t := by
 cases t
 case box => exact .box rfl rfl
 case par => exact .box rfl rfl
 case i => exact .skip rfl rfl (show (oS "int") ≠ (oS "adt") by decide) rfl
 case bool => exact .skip rfl rfl (show (oS "bool") ≠ (oS "adt") by decide) rfl
 case ref => exact .skip rfl rfl (show (oS "ref") ≠ (oS "adt") by decide) rfl
 case bU r u => exact .bU r u rfl
 case arr t _ => exact .more rfl rfl (Bool.or_false _).symm (Nat.lt_succ_self _) (Nat.le_add_left _ _)
 case dj => exact .more rfl rfl rfl (Nat.lt_succ_self _) (Nat.zero_le _)
 case dq t => exact .more rfl rfl (Bool.or_false _).symm (Nat.lt_succ_self _) (Nat.le_add_left _ _)
 case bP t u => exact .more rfl rfl (congrArg _ (Bool.or_false _).symm) (Nat.lt_succ_self _) (Nat.succ_le_succ (Nat.le_trans (qi t) (Nat.le_add_right _ _)))
def mK (ok : Ok G) (F : cb G) {T : Ty} (hT : isPlain T = true) {m : Nat} (hh : ht T <= 20) (hw : wt T <= 1000) (hm : ht T + 20 <= m) (hR : aj A (m + 1)) (q : Q (.raw (.bool (aQ T))) Γ) : WC G A X (.ref 241) [enc T, bR G.w.params] Γ Q := by
 have g1 := cX ok
 have g2 := tH ok
 have g3 := kQ ok
 have b1 := iP ok
 have b2 := jH ok
 tm_at "def2n"
 intro L env A' X' eL fZ
 tm_at "go0"
 tm_at "v"
 refine WE.cK ?_
 tm_at "v"
 intro a
 tm_at "v"
 refine WE.cK ?_
 tm_at "v"
 intro b
 tm_at "v"
 refine W1.while (Ib G.w.params L a b T Γ) ⟨_, .mk (ts := [T]) (ss := []) ⟨(Nat.zero_add _).symm ▸ hw, Bool.or_false _, .one hT (Nat.le_refl _), ⟨(List.forall_mem_nil _), (List.forall_mem_nil _)⟩⟩⟩ ?_
 intro X2 k ae hI
 cases hI with | @mk ts ss hv vv n => ?_
 tm_at "v"
 refine WE.list ?_
 tm_at "v"
 refine WB.left ‹_› (by tm_at "p") (fun t ht => bI (n.nt.pl t ht)) (fun e => ?_) fun us t e => ?_
 .rw [<- n.box, e] at q
  tm_at "v"
  tm_at "fq"
 have n1 : tU T (us ++ [t]) ss := e ▸ n
 k_dflt obtain ⟨AR, xM, nM⟩ := n1.cR
 tm_at "v"
 refine WM.pop (by tm_at "p") ?_
 tm_at "v"
 refine WC.tJ e (by tm_at "p") (by tm_at "o") ?_
 tm_at "v"
 cases BW t with
 | box h hb =>
  rw [n1.hit hb] at q
  tm_at "v"
  exact ⟨_, .refl _, Fin.mk (by tm_at "w") q⟩
 | skip h h' hn hb =>
  tm_at "v"
  exact zj (by tm_at "w") (e ▸ ql) (.mk (n1.skip hb))
 | more h h' hb hw hl =>
  tm_at "v"
  refine WM.extend (by tm_at "p") ?_
  tm_at "v"
  refine dt ok (n := 1) (by tm_at "r") t ?_
  tm_at "v"
  refine WC.qa (parts t) (by tm_at "p") rfl (by tm_at "o") ?_
  tm_at "v"
  exact zj (by tm_at "w") (e ▸ qk hw) (.mk (n1.more hb hw))
 | bU r u e' =>
  cases e'
  have hp := n1.nt.last
  cases r with | some => exact iI hp.1 | none => ?_
  have El := d9 (.bU none u)
  tm_at "v"
  refine WB.notIn_list (d := encD (.bU none u)) ‹_› (.list (by tm_at "p")) (eu ss) (gY (.bU none u)) (tT n.ns) (ix (bI hp.1)) (by have := hp.2; tm_at "o") ?_
  generalize (!List.any (ss.map encD) fun z => PyData.eqv z (encD (.bU none u))) = bb
  cases bb
  .tm_at "v"
   exact zj (by tm_at "w") (e ▸ ql) (.mk (n1.skip rfl))
  .tm_at "v"
   refine WM.append (by tm_at "p") ?_
   tm_at "v"
   refine WC.BQ (.bU none u) (by tm_at "p") (by tm_at "o") ?_
   tm_at "v"
   refine xN ok (n := 1) (by tm_at "r") ?_
   tm_at "v"
   refine W1.wL 1 ?_
   tm_at "v"
   refine WB.item_dict .d8 (y := nN G.w.params) rfl ?_
   dsimp only [nN]
   tm_at "v"
   refine WC.cn rfl (short rfl) ?_
   tm_at "v"
   refine WC.l3 ?_
   refine .mk (au.range ‹_› (by decide) (by decide)) (.one rfl fun X3 => ?_)
   tm_at "turn"
   intro I o
   tm_at "v"
   refine WM.extend (by tm_at "p") ?_
   tm_at "v"
   (refine WE.aP Unit 1 [oS "name", oS "part"] [(oS ".0", .local), (oS "name", .local), (oS "part", .local)] _ ‹_› (by kernel_rfl) (by tm_at "dk") (by tm_at "dk") (by tm_at "lent") (by tm_at "dm") (by tm_at "dk") ?_)
   tm_at "v"
   refine oN (m := m - 1) ok F (t := u) (by have := hp.2; dsimp only [ht] at this; tm_at "o") (by tm_at "r") ?_
   refine aL.fn (ts := [()]) (e := fun _ => .tup [.str (oS "0"), enc (.ref none false u)]) (e' := fun _ => enc (.ref none false u)) (au.seq ‹_› rfl) (short rfl) (fun X' aF D C acc dC t' cp => ?_) ?_
   .tm_at "turn"
    intro I o
    tm_at "v"
    tm_at "endturn"
   tm_at "v"
   refine WC.qa [.ref none false u] (by tm_at "p") rfl (Nat.le_trans AR (by decide)) ?_
   tm_at "v"
   refine Dc (by tm_at "p") ?_
   tm_at "v"
   exact zj (by tm_at "w") (e ▸ qk (ps := [.ref none false u]) (Nat.lt_succ_self _)) (.mk n1.bU)
end
section
noncomputable def eZ : Ty -> List Ty
 | .i _ => []
 | .bool => []
 | .par _ => []
 | .ref _ _ _ => []
 | .box t => [t]
 | .arr t _ => [t]
 | .dj => []
 | .dq t => [t]
 | .bP t u => [t, u]
 | .bU _ t => [.ref none false t]
set_option tactic.hygienic true in
def rZ (ok : Ok G) (F : cb G) {T : Ty} (hT : isPlain T = true) {m : Nat} (hm : ht T + 20 <= m) (hR : aj A (m + 1)) (q : Q (.lst ((eZ T).map enc)) Γ) : WC G A X (.ref 458) [enc T, bR G.w.params] Γ Q := by
 have g3 := kQ ok
 have b1 := iP ok
 have b2 := jH ok
 have b3 := mz ok
 tm_at "def2n"
 intro L env A' X' eL fZ
 tm_at "go0"
 cases T
 case bU r u =>
  cases r with | some => exact iI hT | none => ?_
  tm_at "v"
  refine WE.cK ?_
  tm_at "v"
  intro a
  tm_at "v"
  refine W1.wL 1 ?_
  tm_at "v"
  refine WB.item_dict .d8 (y := nN G.w.params) rfl ?_
  dsimp only [nN]
  tm_at "v"
  refine WC.cn rfl (short rfl) ?_
  tm_at "v"
  refine WC.l3 ?_
  refine .mk (au.range ‹_› (by decide) (by decide)) (.one rfl fun X3 => ?_)
  tm_at "turn"
  intro I o
  tm_at "v"
  refine WM.extend (by tm_at "p") ?_
  tm_at "v"
  (refine WE.aP Unit 1 [oS "name", oS "inner"] [(oS ".0", .local), (oS "name", .local), (oS "inner", .local)] _ ‹_› (by kernel_rfl) (by tm_at "dk") (by tm_at "dk") (by tm_at "lent") (by tm_at "dm") (by tm_at "dk") ?_)
  tm_at "v"
  refine oN (m := m - 1) ok F (t := u) (by dsimp only [ht] at hm; tm_at "o") (by tm_at "r") ?_
  refine aL.fn (ts := [()]) (e := fun _ => .tup [.str (oS "0"), enc (.ref none false u)]) (e' := fun _ => enc (.ref none false u)) (au.seq ‹_› rfl) (short rfl) (fun X' aF D C acc dC t' cp => ?_) ?_
  .tm_at "turn"
   intro I o
   tm_at "v"
   tm_at "endturn"
  tm_at "v"
  refine WC.extend (by tm_at "p") (.inl rfl) (short rfl) ?_
  tm_at "v"
  refine Dc (by tm_at "p") ?_
  tm_at "v"
  exact Fin.d8 (P := [(a, .list [enc (.ref none false u)])]) (ao.pick (.there .here) (ao.drop (.refl _))) kL.list q
 all_goals tm_at "v"
 all_goals first | refine WE.list ?_ | refine WC.dK rfl (short rfl) ?_
 all_goals tm_at "v"
 all_goals exact Fin.mk (by tm_at "w") q
def zN (T : Ty) : xu (enc T) = true := by
 have hr : ∀ r : dr, xu (eM r) = true := fun r => by cases r <;> rfl
 induction T <;> ((try dsimp only [enc, xu, vr] at *); simp_all)
def zO (T : Ty) : (encD T).depth = om (enc T) := by
 have hr : ∀ r : dr, (jI r).depth = om (eM r) := fun r => by cases r <;> rfl
 induction T <;> ((try dsimp only [enc, encD, om, me] at *); simp_all [PyData.depth, PyData.depthAll])
def band {a b : Bool} (h : (a && b) = true) : a = true /\ b = true := (Bool.and_eq_true ..).mp h
def EM {x y : PyData} {xs ys : List PyData} (h : PyData.eqv (.tuple (x :: xs)) (.tuple (y :: ys)) = true) : PyData.eqv x y = true := (band h).1
def ev2 {x y u v : PyData} {xs ys : List PyData} (h : PyData.eqv (.tuple (u :: x :: xs)) (.tuple (v :: y :: ys)) = true) : PyData.eqv x y = true := (band (band h).2).1
def zP {u v : PyData} {xs ys : List PyData} (h : PyData.eqv (.tuple (u :: xs)) (.tuple (v :: ys)) = true) : PyData.eqv (.tuple xs) (.tuple ys) = true := (band h).2
def evs {x y : Str} (h : PyData.eqv (.str x) (.str y) = true) : x = y := eq_of_beq h
def KP {x y : Int} (h : PyData.eqv (.int x) (.int y) = true) : x = y := eq_of_beq h
def KQ {x y : Bool} (h : PyData.eqv (.bool x) (.bool y) = true) : x = y := eq_of_beq h
def Ic : ∀ {r q : dr}, PyData.eqv (jI r) (jI q) = true -> r = q := fun {r q} h => by
 cases r <;> cases q
 .rfl
 .exact iI h
 .exact iI h
 .exact congrArg some (evs h)
def zQ (a : Ty) : ∀ b : Ty, PyData.eqv (encD a) (encD b) = true -> a = b := by
 induction a with
 | i n => intro b h; cases b with
  | i m => exact congrArg _ (evs (ev2 h))
  | _ => exact iI h
 | bool => intro b h; cases b with
  | bool => rfl
  | _ => exact iI h
 | par n => intro b h; cases b with
  | par m => exact congrArg _ (evs (ev2 h))
  | _ => exact iI h
 | ref r m t ih => intro b h; cases b with
  | ref r' m' u => cases Ic (ev2 h); cases KQ (ev2 (zP h)); exact congrArg _ (ih _ (ev2 (zP (zP h))))
  | _ => exact iI h
 | box t ih => intro b h; cases b with
  | box u => exact congrArg _ (ih _ (ev2 h))
  | _ => exact iI h
 | arr t n ih => intro b h; cases b with
  | arr u m => cases KP (ev2 (zP h)); exact congrArg (Ty.arr · n) (ih _ (ev2 h))
  | _ => exact iI h
 | dj => intro b h; cases b with
  | dj => rfl
  | _ => exact iI h
 | dq t ih => intro b h; cases b with
  | dq u => exact congrArg _ (ih _ (EM (ev2 h)))
  | bP u v => exact iI (zP (ev2 h))
  | _ => exact iI h
 | bP t u zH oy => intro b h; cases b with
  | bP v w => cases zH _ (EM (ev2 h)); exact congrArg _ (oy _ (ev2 (ev2 h)))
  | dq v => exact iI (zP (ev2 h))
  | _ => exact iI h
 | bU r t ih => intro b h; cases b with
  | bU r' u => cases Ic (EM (ev2 (zP h))); exact congrArg _ (ih _ (EM (ev2 (zP (zP h)))))
  | _ => exact iI h
def uG (t : Ty) : ∃ xs, enc t = .tup xs := by cases t <;> exact ⟨_, rfl⟩
noncomputable abbrev mL := { T : Ty // isPlain T = true /\ om (enc T) <= 8 }
noncomputable def hM : DecidableEq mL := fun a b => Classical.propDecidable _
noncomputable def uH : @j8 mL hM := @j8.mk mL hM
 (fun k => enc k.1) (fun k => encD k.1) (fun k => zN k.1) (fun k => k.2.2) (fun k => gY k.1) (fun k => ix (bI k.2.1)) (fun k => by rw [zO]; have := k.2.2; tm_at "o")
 (fun a b => by
  by_cases h : a = b
  .subst h
   rw [PySem.SeqAt.eqv_refl _ (ix (bI a.2.1)), @decide_eq_true _ (hM a a) rfl]
  .rw [@decide_eq_false _ (hM a b) h]
   cases e : PyData.eqv (encD a.1) (encD b.1) with
   | false => rfl
   | true => exact absurd (Subtype.ext (zQ _ _ e)) h)
noncomputable def CI (n : Nat) : bG := @gU mL hM uH n
def WB.DX {a : Addr} {R : aa} {m k : Nat} (hR : aj A m) {t : Ty} (h1 : isPlain t = true) (h2 : om (enc t) <= 8) (p : aC a (CI k) Γ R) (q : ∀ b, Q (.raw (.bool b)) Γ) : WB G A X (compareOp .In) Rep (enc t) (.raw (.ref a)) Γ Q :=
 @WB.BJ mL hM uH _ _ _ _ _ _ _ _ _ hR ⟨t, h1, h2⟩ _ (Classical.choose_spec (uG t)) p q
def WK.ty {a : Addr} {R : aa} {m k : Nat} (hR : aj A m) {t : Ty} {y : AV} {Q : aa -> Prop} (h1 : isPlain t = true) (h2 : om (enc t) <= 8) (p : aC a (CI k) Γ R) (hz : k <= 1000) (q : Q ((a, CI (k + 1)) :: R)) : WK G A X (.raw (.ref a)) (enc t) y Γ Q :=
 @WK.Kg mL hM uH _ _ _ _ _ _ _ _ hR ⟨t, h1, h2⟩ _ _ _ (Classical.choose_spec (uG t)) p hz q
def WE.BX {env : Env} {pos : Pos} (q : ∀ a, Q (.raw (.ref a)) ((a, CI 0) :: Γ)) : WE G A X env (.Dict [] [] pos) Γ Q :=
 @WE.zA mL hM uH _ _ _ _ _ _ _ q
noncomputable abbrev uI (w b : AV) (m wt ks : Addr) : List (Str × AV) := [(oS "world", w), (oS "bodies", b), (oS "made", .raw (.ref m)), (oS "waiting", .raw (.ref wt)), (oS "keys", .raw (.ref ks))]
noncomputable def gq (P : Params) (b : AV) (m wt ks : Addr) : AV := gj P 449 (uI (bR P) b m wt ks)
structure nP (t : Ty) : Prop where
 pl : isPlain t = true
 lv : om (enc t) <= 8
 sz : aV t <= 120
noncomputable def wd : Ty -> Nat
 | .i _ => 1
 | .bool => 1
 | .par _ => 1
 | .ref _ _ _ => 1
 | .box t => wd t + 1
 | .arr t _ => wd t + 1
 | .dj => 1
 | .dq t => wd t + 1
 | .bP t u => wd t + wd u + 1
 | .bU _ _ => 2
noncomputable def qM (ts : List Ty) : Nat := (ts.map wd).sum
def lG (ts us : List Ty) : qM (ts ++ us) = qM ts + qM us := by (dsimp only [qM]; simp)
def mM (t : Ty) : qM (eZ t) + 1 <= wd t := by cases t <;> (dsimp only [qM, wd, eZ, List.map, List.sum_cons, List.sum_nil]; tm_at "o")
def xS (t : Ty) : 1 <= wd t := by cases t <;> (dsimp only [wd]; simp)
def uJ (ts : List Ty) : ts.length <= qM ts := by
 induction ts with
 | nil => exact Nat.zero_le _
 | cons t r ih => have := xS t; (dsimp only [qM] at ih ⊢; simp at ih ⊢); tm_at "o"
theorem zR (t : Ty) : wd t <= 2 * aV t := by induction t <;> dsimp only [wd, aV] <;> tm_at "o"
def qm (t : Ty) : wt t <= 2 * aV t := by induction t <;> dsimp only [wt, aV] <;> tm_at "o"
def ml {a b c : Nat} (h : a <= b) : a <= max b c := Nat.le_trans h (Nat.le_max_left _ _)
def mr {a b c : Nat} (h : a <= c) : a <= max b c := Nat.le_trans h (Nat.le_max_right _ _)
def BZ (t : Ty) : ht t <= om (enc t) := by
 induction t with
 | ref r m t ih => exact Nat.succ_le_succ (mr (mr (mr (ml ih))))
 | box t ih => exact Nat.succ_le_succ (mr (ml ih))
 | arr t n ih => exact Nat.succ_le_succ (mr (ml ih))
 | dq t ih => exact Nat.succ_le_succ (mr (ml (Nat.le_succ_of_le (ml ih))))
 | bP t u ih oy => exact Nat.succ_le_succ (mr (ml (Nat.le_succ_of_le (mx (ml ih) (mr (ml oy))))))
 | bU r t ih => exact Nat.succ_le_succ (mr (mr (mr (ml (Nat.le_succ_of_le (ml ih))))))
 | _ => exact Nat.zero_le _
def nP.inner {t u : Ty} (h : nP t) (hu : u ∈ eZ t) : nP u := by
 obtain ⟨h1, h2, h3⟩ := h
 cases t with
 | box v => cases List.mem_singleton.mp hu; exact ⟨h1, Nat.le_trans (Nat.le_succ_of_le (mr (ml (Nat.le_refl _)))) h2, Nat.le_of_succ_le h3⟩
 | arr v n => cases List.mem_singleton.mp hu; exact ⟨(Bool.and_eq_true_iff.mp h1).2, Nat.le_trans (Nat.le_succ_of_le (mr (ml (Nat.le_refl _)))) h2, Nat.le_of_succ_le h3⟩
 | dq v => cases List.mem_singleton.mp hu; exact ⟨h1, Nat.le_trans (Nat.le_succ_of_le (mr (ml (Nat.le_succ_of_le (ml (Nat.le_refl _)))))) h2, Nat.le_of_succ_le h3⟩
 | bP v z =>
  have h1 := Bool.and_eq_true_iff.mp h1
  rcases List.mem_cons.mp hu with rfl | hu
  .exact ⟨h1.1, Nat.le_trans (Nat.le_succ_of_le (mr (ml (Nat.le_succ_of_le (ml (Nat.le_refl _)))))) h2, Nat.le_trans (Nat.le_succ_of_le (Nat.le_add_right _ _)) h3⟩
  .cases List.mem_singleton.mp hu; exact ⟨h1.2, Nat.le_trans (Nat.le_succ_of_le (mr (ml (Nat.le_succ_of_le (mr (ml (Nat.le_refl _))))))) h2, Nat.le_trans (Nat.le_succ_of_le (Nat.le_add_left _ _)) h3⟩
 | bU r v =>
  cases List.mem_singleton.mp hu
  exact ⟨(Bool.and_eq_true_iff.mp h1).2, Nat.le_trans (Nat.succ_le_succ (nO (nO (nO (qj (Nat.le_trans (Nat.le_succ_of_le (ml (Nat.le_refl _))) (mr (mr (mr (ml (Nat.le_refl _)))))))))) ) h2, h3⟩
 | i => cases hu
 | bool => cases hu
 | par => cases hu
 | dj => cases hu
 | ref => cases hu
structure we (ts : List Ty) (n : Nat) : Prop where
 len : n + qM ts <= 500
 ok : ∀ t ∈ ts, nP t
inductive Ie (P : Params) (b : AV) (m CJ ks L a d : Addr) (T : Ty) (Γ : aa) : Nat -> aa -> Prop
 | mk {ts : List Ty} {n : Nat} {h r : Option AV} (p : we ts n) : Ie P b m CJ ks L a d T Γ (qM ts) ((L, .ns [(oS "self", some (gq P b m CJ ks)), (oS "T", some (enc T)), (oS "waiting", some (.raw (.ref a))), (oS "seen", some (.raw (.ref d))), (oS "here", h), (oS "reference", r)]) :: (a, .list (ts.map enc)) :: (d, CI n) :: Γ)
def xT {us ps : List Ty} {t : Ty} (h : qM ps < wd t) : qM (us ++ ps) < qM (us ++ [t]) := by
 rw [lG, lG]
 exact Nat.add_lt_add_left h _
def qn {us : List Ty} {t : Ty} : qM us < qM (us ++ [t]) := Nat.lt_of_le_of_lt (Nat.le_of_eq (by rw [List.append_nil])) (xT (ps := []) (xS t))
def we.last {us : List Ty} {t : Ty} {n : Nat} (p : we (us ++ [t]) n) : nP t := p.ok t (List.mem_append_right _ (.head _))
def we.skip {us : List Ty} {t : Ty} {n : Nat} (p : we (us ++ [t]) n) : we us n := ⟨Nat.le_trans (Nat.add_le_add_left (Nat.le_of_lt qn) _) p.len, fun u hu => p.ok u (List.mem_append_left _ hu)⟩
def we.more {us : List Ty} {t : Ty} {n : Nat} (p : we (us ++ [t]) n) : we (us ++ eZ t) (n + 1) := ⟨by
 have h := p.len
 have h2 := mM t
 rw [lG] at h ⊢
 rw [show qM [t] = wd t from rfl] at h
 tm_at "o", fun u hu => (List.mem_append.mp hu).elim (fun hu => p.ok u (List.mem_append_left _ hu)) p.last.inner⟩
theorem we.cR {us : List Ty} {t : Ty} {n : Nat} (p : we (us ++ [t]) n) : us.length + (eZ t).length <= 500 /\ n <= 500 := by
 have h := p.len
 have h1 := uJ us
 have h2 := mM t
 have h3 := uJ (eZ t)
 rw [lG, show qM [t] = wd t from rfl] at h
 exact ⟨by tm_at "o", by tm_at "o"⟩
def tV (ok : Ok G) (F : cb G) {b : AV} {m CJ ks : Addr} {T : Ty} (hT : nP T) {k : Nat} (hk : 40 <= k) (hR : aj A (k + 1)) (q : Q (.raw .none) Γ) : WC G A X (.ref 427) [gq G.w.params b m CJ ks, enc T] Γ Q := by
 have g1 := jA ok
 have g2 := jD ok
 have g3 := rM ok
 have g4 := nI ok
 tm_at "def2n"
 intro L env A' X' eL fZ
 tm_at "go0"
 tm_at "v"
 refine WE.cK ?_
 tm_at "v"
 intro a
 tm_at "v"
 refine WE.BX fun d => ?_
 tm_at "v"
 tm_at "st2"
 refine WS.cons (W1.weak (ae := (L, .ns [(oS "self", some (gq G.w.params b m CJ ks)), (oS "T", some (enc T)), (oS "waiting", some (.raw (.ref a))), (oS "seen", some (.raw (.ref d))), (oS "here", none), (oS "reference", none)]) :: (a, .list [enc T]) :: (d, CI 0) :: Γ) (by tm_at "w") ?_)
 refine W1.while (Ie G.w.params b m CJ ks L a d T Γ) ⟨_, .mk (ts := [T]) ⟨by have := zR T; have := hT.sz; rw [show qM [T] = wd T from rfl]; tm_at "o", fun t ht => List.mem_singleton.mp ht ▸ hT⟩⟩ ?_
 intro X2 k2 ae hI
 cases hI with | @mk ts n hv rv p => ?_
 tm_at "v"
 refine WE.list ?_
 tm_at "v"
 refine WB.left ‹_› (by tm_at "p") (fun t ht => bI (p.ok t ht).pl) (fun e => ?_) fun us t e => ?_
 .tm_at "v"
  tm_at "fq"
 have p1 : we (us ++ [t]) n := e ▸ p
 k_dflt obtain ⟨AR, xM⟩ := p1.cR
 have ho := p1.last
 tm_at "v"
 refine WM.pop (by tm_at "p") ?_
 tm_at "v"
 refine WC.tJ e (by tm_at "p") (by tm_at "o") ?_
 tm_at "v"
 refine WB.DX ‹_› ho.pl ho.lv (by tm_at "p") fun bb => ?_
 have hl : ht t <= 8 := Nat.le_trans (BZ t) ho.lv
 have hw : wt t <= 240 := Nat.le_trans (qm t) (Nat.mul_le_mul_left 2 ho.sz)
 cases bb
 .tm_at "v"
  refine mK (m := k - 1) ok F ho.pl (by tm_at "o") (by tm_at "o") (by tm_at "o") (by tm_at "r") ?_
  cases aQ t
  .tm_at "v"
   exact zj (by tm_at "w") (e ▸ qn) (.mk p1.skip)
  .tm_at "v"
   refine mH (n := 3) (bM := []) ok t (bI ho.pl) (Nat.le_trans ho.sz (by decide)) (by tm_at "r") (fun h => absurd h (Nat.not_lt.mpr ho.sz)) fun _ => ?_
   tm_at "v"
   refine WK.ty ‹_› ho.pl ho.lv (by tm_at "p") (by tm_at "o") ?_
   tm_at "v"
   refine vI (n := 3) ok (by tm_at "r") ?_
   tm_at "v"
   refine WM.extend (by tm_at "p") ?_
   tm_at "v"
   refine rZ (m := k - 1) ok F ho.pl (by tm_at "o") (by tm_at "r") ?_
   tm_at "v"
   refine WC.qa (eZ t) (by tm_at "p") rfl (by tm_at "o") ?_
   tm_at "v"
   exact zj (by tm_at "w") (e ▸ xT (mM t)) (.mk p1.more)
 .tm_at "v"
  exact zj (by tm_at "w") (e ▸ qn) (.mk p1.skip)
end
section
noncomputable abbrev oP (ks : List Str) : List (Str × AV) := ks.map fun k => (k, .raw (.bool true))
noncomputable abbrev xU (p : Str × List Ty) : AV := .tup [.str (cf p.1 p.2), .str p.1, .tup (p.2.map enc)]
noncomputable abbrev qo (m w k : Addr) (made : List (Str × AV)) (wait : List (Str × List Ty)) (ks : List Str) (Γ : aa) : aa := (m, .bj made) :: (w, .list (wait.map xU)) :: (k, .bj (oP ks)) :: Γ
def vL (ks : List Str) (k : Str) : (bH (oP ks) k).isSome = decide (k ∈ ks) := by
 induction ks with
 | nil => rfl
 | cons a r ih =>
  show (if a = k then some _ else bH (oP r) k).isSome = _
  by_cases h : a = k
  .subst h; simp
  .rw [if_neg h, ih]; simp [Ne.symm h]
def gb {es : List (Str × AV)} {k : Str} {y : AV} (h : k ∉ es.map (·.1)) : bN es k y = es ++ [(k, y)] := by
 induction es with
 | nil => rfl
 | cons e es ih =>
  obtain ⟨k', z⟩ := e
  simp only [List.map_cons, List.mem_cons, not_or] at h
  dsimp only [bN]
  rw [if_neg (Ne.symm h.1), ih h.2]; rfl
noncomputable def hN (ks : List Str) (wait : List (Str × List Ty)) (p : Str × List Ty) : List (Str × List Ty) := if cf p.1 p.2 ∈ ks then wait else wait ++ [p]
noncomputable def fB (ks : List Str) (p : Str × List Ty) : List Str := if cf p.1 p.2 ∈ ks then ks else ks ++ [cf p.1 p.2]
inductive AS (P : Params) (bE : List (Str × AV)) (m w k : Addr) (path : Str) (ts : List Ty) (L : Addr) (Γ : aa) (done _ : List Ty) : aa -> Prop
 | mk {tv : Option AV} (hd : ∀ t ∈ done, aV t <= 120) : AS P bE m w k path ts L Γ done _ ((L, .ns [(oS "self", some (gq P (ar P bE) m w k)), (oS "reference", some (fA path ts)), (oS "T", tv), (oS "path", none), (oS "types", none), (oS "key", none)]) :: Γ)
def jM {α : Type} {p : α -> Prop} {ts : List α} {t : α} (h : ∀ u ∈ ts, p u) (h' : p t) : ∀ u ∈ ts ++ [t], p u := fun u hu => (List.mem_append.mp hu).elim (h u) fun hu => List.mem_singleton.mp hu ▸ h'
def wanted (ok : Ok G) {bM : aa} {bE : List (Str × AV)} {m w k : Addr} {made : List (Str × AV)} {wait : List (Str × List Ty)} {ks : List Str} {path : Str} {ts : List Ty} {h j : Nat}
  (hn : ts.length <= 60) (uF : ∀ t ∈ ts, fy t = true /\ aV t <= 1000 /\ ht t <= h) (Ig : kZ path (ts.map bB) h) (AU : ks.length <= 300) (CK : wait.length <= 300) (hj : h + 20 <= j) (hR : aj A (j + 1))
  (Bg : ∀ t ∈ ts, 120 < aV t -> RX G A X bM (qo m w k made wait ks Γ)) (G6 : bH bE path = none -> RX G A X bM (qo m w k made wait ks Γ))
  (q : (∀ t ∈ ts, aV t <= 120) -> (cf path (ts.map bB) ∉ ks -> (bH bE path).isSome = true) -> Q (.str (cf path (ts.map bB))) (qo m w k made (hN ks wait (path, ts.map bB)) (fB ks (path, ts.map bB)) Γ)) :
  WC G A X (.ref 420) [gq G.w.params (ar G.w.params bE) m w k, fA path ts] (qo m w k made wait ks Γ) Q := by
 have g1 := jD ok
 have g2 := xC ok
 have g3 := ki ok
 have g4 := kN ok
 have g5 := mn ok
 have b1 := iP ok
 have b2 := iq ok
 tm_at "def2X"
 intro L env A' X' eL fZ hD
 tm_at "go0"
 tm_at "v"
 refine W1.AA 1 ts enc (AS G.w.params bE m w k path ts L (qo m w k made wait ks Γ)) ?_ ?_ ?_
 .tm_at "v"
  exact ⟨au.seq ‹_› rfl, .mk (List.forall_mem_nil _)⟩
 .intro ae done t todo e1 hI
  cases hI with | @mk tv hd => ?_
  have Ih : t ∈ ts := by rw [e1]; exact List.mem_append_right _ (.head _)
  have h1 := uF t Ih
  tm_at "turn"
  intro I o
  tm_at "v"
  refine mH (n := h + 10) (bM := bM) ok t h1.1 h1.2.1 (by tm_at "r") (fun hb => ?_) fun hs => ?_
  .have r := Bg t Ih hb
   obtain ⟨fs, tn⟩ := r.frames
   exact (r.into hD eL.kind (by tm_at "m") (by tm_at "memh")).uD hD tn
  .tm_at "v"
   exact Az (by tm_at "turn"; tm_at "w") (.mk (jM hd hs))
 .intro ae hI
  cases hI with | @mk tv hd => ?_
  tm_at "v"
  (refine WE.aP Ty 1 [oS "T"] [(oS ".0", .local), (oS "T", .local), (oS "erased", .globalImplicit)] _ ‹_› (by kernel_rfl) (by tm_at "dk") (by tm_at "dk") (by tm_at "lent") (by tm_at "dm") (by tm_at "dk") ?_)
  tm_at "v"
  refine aL.fn (ts := ts) (e := enc) (e' := fun t => enc (bB t)) (au.seq ‹_› rfl) (Nat.le_trans hn (by decide)) (fun X' aF D C acc dC t cp => ?_) ?_
  .have h1 := uF t cp
   tm_at "turn"
   intro I o
   tm_at "v"
   exact erased ok t (m := h + 3) (by tm_at "r") (by tm_at "o") (by tm_at "endturn")
  rw [mC enc bB]
  tm_at "v"
  refine WC.ei (by rw [List.length_map, List.length_map]; exact Nat.le_trans hn (by decide)) ?_
  tm_at "v"
  tm_at "st2"
  tm_at "v"
  refine BO ok path (ts.map bB) (m := h + 6) Ig (by tm_at "o") (by tm_at "r") ?_
  tm_at "v"
  generalize B1 : cf path (ts.map bB) = key at q ⊢
  refine WB.iV (.own (by tm_at "p")) ?_
  rw [vL]
  by_cases vq : key ∈ ks
  .rw [decide_eq_true vq, Bool.not_true]
   have hq := q hd (fun h => absurd vq h)
   (dsimp only [hN, fB] at hq; simp only [B1, vq, if_true] at hq)
   tm_at "v"
   exact Fin.mk (by tm_at "w") hq
  .rw [decide_eq_false vq, Bool.not_false]
   tm_at "v"
   refine WC.len_dict (.own (by tm_at "p")) (by rw [List.length_map, sizeLine_eq]; tm_at "o") ?_
   tm_at "v"
   refine WB.ge_int ?_
   rw [show decide (((oP ks).length : Int) >= 400) = false from decide_eq_false (by rw [List.length_map]; tm_at "o")]
   tm_at "v"
   refine WB.iV .d8 ?_
   cases Ii : bH bE path with
   | none =>
    simp only [Option.isSome_none, Bool.not_false]
    have r := G6 Ii
    refine WS.cons (W1.raise ‹_› ?_)
    tm_at "v"
    refine WB.add_str (DT (by have : (oS "there is no body of ").length <= 100 := (by tm_at "dk"); have := Ig.len; tm_at "o")) ?_
    tm_at "v"
    refine rX (n := h) ok (by tm_at "r") fun e d t0 => ?_
    refine .mk (bM := bM) (by tm_at "p") (uC ok) ?_
    exact r.into hD eL.kind (by tm_at "m") (by tm_at "memh")
   | some bv =>
    simp only [Option.isSome_some, Bool.not_true]
    have hq := q hd (fun h => by rw [Ii]; rfl)
    (dsimp only [hN, fB] at hq; simp only [B1, vq, if_false] at hq)
    tm_at "v"
    refine WK.dict (by tm_at "p") (by rw [List.length_map, sizeLine_eq]; tm_at "o") ?_
    rw [gb (by rw [List.map_map]; simpa [Function.comp_def] using vq)]
    tm_at "v"
    refine WM.append (by tm_at "p") ?_
    tm_at "v"
    refine WC.append (by tm_at "p") (by rw [List.length_map, sizeLine_eq]; tm_at "o") ?_
    tm_at "v"
    refine Fin.mk (ae := qo m w k made (wait ++ [(path, ts.map bB)]) (ks ++ [key]) Γ) ?_ hq
    simp only [qo, oP, List.map_append, List.map_cons, List.map_nil, xU, B1]
    tm_at "w"
end
section
set_option genCtorIdx true in
inductive Term where
 | call (path : Str) (ts : List Ty) (os : List oJ) (dst : AV) (k : Int)
 | drop (at' k : Int)
 | assert (o : oJ) (rest : List AV)
 | ret
noncomputable def bQ : Term -> AV
 | .call path ts os dst k => .tup [.str (oS "call"), fA path ts, .tup (os.map dI), dst, .int k]
 | .drop at' k => .tup [.str (oS "drop"), .tup [.int at', .tup []], .int k]
 | .assert o rest => .tup (.str (oS "assert") :: dI o :: rest)
 | .ret => .tup [.str (oS "return")]
noncomputable def dT (tab : List (Str × Ty)) (Ls : List Ty) : Term -> AV
 | .call path ts os dst k => .tup [.str (oS "call"), .tup [.str (oS "fn"), .str (cf path (ts.map (plainT tab))), .tup []], .tup ((os.map (cQ tab)).map dI), dst, .int k]
 | .drop at' k => if (Ls[at'.toNat]?.map aQ).getD false then .tup [.str (oS "drop"), .tup [.int at', .tup []], .int k] else .tup [.str (oS "goto"), .int k]
 | .assert o rest => .tup (.str (oS "assert") :: dI (cQ tab o) :: rest)
 | .ret => .tup [.str (oS "return")]
structure B2 (tab : List (Str × Ty)) (path : Str) (ts : List Ty) (h : Nat) : Prop where
 n : ts.length <= 60
 each : ∀ t ∈ ts, fy (bh tab t) = true /\ aV (bh tab t) <= 1000 /\ ht (bh tab t) <= h /\ ht t <= h
 key : kZ path (ts.map (plainT tab)) h
noncomputable def DY (tab : List (Str × Ty)) (Ls : List Ty) (h : Nat) : Term -> Prop
 | .call path ts os dst k => B2 tab path ts h /\ os.length <= 8 /\ ∀ o ∈ os, da tab o <= h
 | .drop at' k => 0 <= at' /\ at' < 1000 /\ ∃ T, Ls[at'.toNat]? = some T /\ isPlain T = true /\ ht T <= 20 /\ wt T <= 1000 /\ (aQ T = true -> nP T)
 | .assert o rest => da tab o <= h /\ rest.length <= 6 /\ rest ≠ []
 | .ret => True
noncomputable def zS (tab : List (Str × Ty)) (ks : List Str) (wait : List (Str × List Ty)) : Term -> List (Str × List Ty)
 | .call path ts _ _ _ => hN ks wait (path, ts.map (plainT tab))
 | _ => wait
noncomputable def xV (tab : List (Str × Ty)) (ks : List Str) : Term -> List Str
 | .call path ts _ _ _ => fB ks (path, ts.map (plainT tab))
 | _ => ks
noncomputable abbrev ee (T : Ty) : AV := .tup [enc T, .raw (.bool true), .raw .none]
noncomputable def B3 (G : Base) (A : Around) (X : Value -> Shared -> Prop) (bM Γ : aa) (bE : List (Str × AV)) (tab : List (Str × Ty)) : Term -> Prop
 | .call path ts _ _ _ => (∀ t ∈ ts, 120 < aV (bh tab t) -> RX G A X bM Γ) /\ (bH bE path = none -> RX G A X bM Γ)
 | _ => True
noncomputable def B4 (bE : List (Str × AV)) (tab : List (Str × Ty)) (ks : List Str) : Term -> Prop
 | .call path ts _ _ _ => (∀ t ∈ ts, aV (bh tab t) <= 120) /\ (cf path (ts.map (plainT tab)) ∉ ks -> (bH bE path).isSome = true)
 | _ => True
set_option tactic.hygienic true in
def kq (ok : Ok G) {bM : aa} {bE : List (Str × AV)} {m w k a d : Addr} {made : List (Str × AV)} {wait : List (Str × List Ty)} {ks : List Str} {nm ac bv sv : AV} {Ls : List Ty} {tab : List (Str × Ty)} {h j : Nat} (tm : Term)
  (hF : cb G \/ ∀ at' k', tm ≠ .drop at' k') (ho : DY tab Ls h tm) (AU : ks.length <= 300) (CK : wait.length <= 300) (hh : 40 <= h) (hj : h + 30 <= j) (hR : aj A (j + 1))
  (hx : B3 G A X bM Γ bE tab tm)
  (q : B4 bE tab ks tm -> Q (dT tab Ls tm) (qo m w k made (zS tab ks wait tm) (xV tab ks tm) ((a, .inst 336 d) :: (d, .fld (hG nm ac (.lst (Ls.map ee)) bv sv)) :: Γ))) :
  WC G A X (.ref 446) [gq G.w.params (ar G.w.params bE) m w k, .raw (.ref a), bQ tm, ar G.w.params (bF tab)] (qo m w k made wait ks ((a, .inst 336 d) :: (d, .fld (hG nm ac (.lst (Ls.map ee)) bv sv)) :: Γ)) Q := by
 have g1 := mq ok
 have g2 := pU ok
 have g3 := fw ok
 have g4 := pW ok
 have g5 := jA ok
 have g6 := cT ok
 tm_at "def4X"
 intro L env A' X' eL fZ hD
 tm_at "go0"
 dsimp only [gq]
 cases tm
 case ret =>
  dsimp only [bQ]
  tm_at "v"
  have hq := q trivial
  dsimp only [dT, zS, xV] at hq
  exact Fin.mk (by tm_at "w") hq
 case assert o rest =>
  k_dflt obtain ⟨h1, h2, h3⟩ := ho
  dsimp only [bQ]
  tm_at "v"
  refine bV ok tab o (m := h + 4) (by tm_at "o") (by tm_at "r") ?_
  tm_at "v"
  refine ⟨2, rfl, by tm_at "o", by simp, gZ (by simp; tm_at "o"), ?_⟩
  dsimp only [List.drop]
  refine WB.jo (by simp) h3 (gZ (by simp; tm_at "o")) ?_
  dsimp only [List.cons_append, List.nil_append]
  have hq := q trivial
  dsimp only [dT, zS, xV] at hq
  exact Fin.mk (by tm_at "w") hq
 case drop at' k' =>
  k_dflt obtain ⟨h0, h1, T, hl, hp, Ij, KR, KS⟩ := ho
  have F : cb G := hF.resolve_right fun h => h at' k' rfl
  dsimp only [bQ]
  tm_at "v"
  refine tS ok (n := h) (x := enc T) (by tm_at "p") (by tm_at "p") h0 h1 (by rw [List.getElem?_map, hl]; rfl) (by tm_at "r") ?_
  tm_at "v"
  refine mK (m := h) ok F hp Ij KR (by tm_at "o") (by tm_at "r") ?_
  have hq := q trivial
  (dsimp only [dT, zS, xV] at hq; simp only [hl, Option.map_some, Option.getD_some] at hq)
  cases hb : aQ T with
  | false =>
   rw [hb] at hq
   tm_at "v"
   exact Fin.mk (by tm_at "w") hq
  | true =>
   rw [hb] at hq
   tm_at "v"
   refine WM.inst (f := 427) .d8 rfl (by tm_at "Kk") ?_
   tm_at "v"
   refine tV (k := h + 1) ok F (KS hb) (by tm_at "o") (by tm_at "r") ?_
   tm_at "v"
   exact Fin.mk (by tm_at "w") hq
 case call path ts os dst k' =>
  obtain ⟨hc, h1, h2⟩ := ho
  dsimp only [bQ]
  tm_at "v"
  refine tR ok tab path ts (m := h + 3) hc.n (fun t ht => by have := hc.each t ht; tm_at "o") (by tm_at "r") ?_
  tm_at "v"
  refine qh ok path _ (n := h) (by tm_at "r") ?_
  tm_at "v"
  refine cC ok tab os (m := h + 4) (gZ h1) (fun o ho => by have := h2 o ho; tm_at "o") (by tm_at "r") rfl ?_
  tm_at "v"
  refine WM.inst (f := 420) .d8 rfl (by tm_at "Kk") ?_
  tm_at "v"
  refine WC.weak (ao.pick (a := m) (by tm_at "p") (ao.pick (a := w) (by tm_at "p") (ao.pick (a := k) (by tm_at "p") (ao.refl _)))) ?_
  have he : (ts.map (bh tab)).map bB = ts.map (plainT tab) := by rw [List.map_map]; rfl
  obtain ⟨Bg, G6⟩ := hx
  refine wanted (bM := bM) (h := h) (j := h + 24) ok (by rw [List.length_map]; exact hc.n) (fun t ht => ?_) (by rw [he]; exact hc.key) AU CK (by tm_at "o") (by tm_at "r") (fun t ht hb => ?_) (fun hb => ?_) fun z1 z2 => ?_
  .k_dflt obtain ⟨u, hu, rfl⟩ := List.mem_map.mp ht
   have := hc.each u hu
   exact ⟨this.1, this.2.1, this.2.2.1⟩
  .k_dflt obtain ⟨u, hu, rfl⟩ := List.mem_map.mp ht
   exact (Bg u hu hb).into hD eL.kind (by tm_at "m") (by tm_at "memh")
  .exact (G6 hb).into hD eL.kind (by tm_at "m") (by tm_at "memh")
  .rw [he] at z2 ⊢
   have hq := q ⟨fun t ht => z1 _ (List.mem_map_of_mem ht), z2⟩
   dsimp only [dT, zS, xV] at hq
   tm_at "v"
   exact Fin.mk (by tm_at "w") hq
end
section
noncomputable abbrev eC := List Row × Term
noncomputable abbrev cO (b : eC) : AV := .lst [.lst (b.1.map cD), bQ b.2]
noncomputable abbrev r4 (tab : List (Str × Ty)) (Ls : List Ty) (b : eC) : AV := .lst [.lst ((b.1.map (dX tab)).map cD), dT tab Ls b.2]
noncomputable def qp (tab : List (Str × Ty)) : List Str -> List (Str × List Ty) -> List eC -> List (Str × List Ty)
 | ks, wait, [] => wait
 | ks, wait, b :: bs => qp tab (xV tab ks b.2) (zS tab ks wait b.2) bs
noncomputable def qr (tab : List (Str × Ty)) : List Str -> List eC -> List Str
 | ks, [] => ks
 | ks, b :: bs => qr tab (xV tab ks b.2) bs
noncomputable def oQ (bE : List (Str × AV)) (tab : List (Str × Ty)) : List Str -> List eC -> Prop
 | ks, [] => True
 | ks, b :: bs => B4 bE tab ks b.2 /\ oQ bE tab (xV tab ks b.2) bs
def zT (tab : List (Str × Ty)) (ks : List Str) (tm : Term) : (xV tab ks tm).length <= ks.length + 1 := by cases tm <;> dsimp only [xV, fB] <;> (try split) <;> simp
def zU (tab : List (Str × Ty)) (ks : List Str) (wait : List (Str × List Ty)) (tm : Term) : (zS tab ks wait tm).length <= wait.length + 1 := by cases tm <;> dsimp only [zS, hN] <;> (try split) <;> simp
structure xW (tab : List (Str × Ty)) (Ls : List Ty) (h : Nat) (b : eC) : Prop where
 rows : ∀ r ∈ b.1, G3 tab h r
 n : b.1.length <= 60
 tm : DY tab Ls h b.2
def B3.mono {bM ae : aa} {bE : List (Str × AV)} {tab : List (Str × Ty)} {tm : Term} {A' : Around} {X' : Value -> Shared -> Prop} (h : B3 G A X bM Γ bE tab tm) (f : RX G A X bM Γ -> RX G A' X' bM ae) : B3 G A' X' bM ae bE tab tm := by
 cases tm with
 | call path ts os dst k => exact ⟨fun t ht hb => f (h.1 t ht hb), fun hb => f (h.2 hb)⟩
 | _ => trivial
def Seen.vM {d b : Addr} {R : aa} {f f' : List (Str × AV)} {xs : List AV} (w : ao Γ ((d, .fld f) :: (b, .list xs) :: R)) (sw : Sw (.raw (.ref b)) (.lst xs) f f') : Seen G Γ ((d, .fld f') :: R) := Seen.field (P := [(b, .list xs)]) kL.list w sw
def Seen.oU {d b : Addr} {R : aa} {f f' : List (Str × AV)} {xs : List (Str × AV)} (w : ao Γ ((d, .fld f) :: (b, .bj xs) :: R)) (sw : Sw (.raw (.ref b)) (ar G.w.params xs) f f') : Seen G Γ ((d, .fld f') :: R) := Seen.field (P := [(b, .bj xs)]) kL.dict w sw
def Seen.oV {L a d C : Addr} {R : aa} {f : List (Str × AV)} {m m' : List (Str × Option AV)} {x : Str} (w : ao Γ ((L, .ns m) :: (a, .inst C d) :: (d, .fld f) :: R)) (hm : (x, some (.raw (.ref a))) ∈ m) (hp : nZ m x (gj G.w.params C f) m') : Seen G Γ ((L, .ns m') :: R) := Seen.local (P := [(a, .inst C d), (d, .fld f)]) kL.inst w hm hp
structure EN (bE : List (Str × AV)) (tab : List (Str × Ty)) (bs : List eC) (ks : List Str) (wait : List (Str × List Ty)) (todo : List eC) (wt : List (Str × List Ty)) (sN : List Str) : Prop where
 w : qp tab sN wt todo = qp tab ks wait bs
 k : qr tab sN todo = qr tab ks bs
 go : oQ bE tab sN todo -> oQ bE tab ks bs
 kl : sN.length + todo.length <= 300
 wl : wt.length + todo.length <= 300
def EN.next {bE : List (Str × AV)} {tab : List (Str × Ty)} {bs todo : List eC} {ks sN : List Str} {wait wt : List (Str × List Ty)} {b : eC} (p : EN bE tab bs ks wait (b :: todo) wt sN) (h : B4 bE tab sN b.2) : EN bE tab bs ks wait todo (zS tab sN wt b.2) (xV tab sN b.2) :=
 ⟨p.w, p.k, fun z => p.go ⟨h, z⟩, Nat.le_trans (Nat.add_le_add_right (zT ..) _) (Nat.le_trans (Nat.le_of_eq (Nat.succ_add_eq_add_succ ..)) p.kl), Nat.le_trans (Nat.add_le_add_right (zU ..) _) (Nat.le_trans (Nat.le_of_eq (Nat.succ_add_eq_add_succ ..)) p.wl)⟩
inductive Ik (P : Params) (bE : List (Str × AV)) (m w k L a b d : Addr) (made : List (Str × AV)) (key : Str) (nm : AV) (ac : Int) (sp : AV) (Ls yP : List Ty) (tab : List (Str × Ty)) (bs : List eC) (ks : List Str) (wait : List (Str × List Ty)) (Γ : aa) (dn todo : List eC) : aa -> Prop
 | mk {wt : List (Str × List Ty)} {sN : List Str} {sv tv dv : Option AV} (p : EN bE tab bs ks wait todo wt sN) : Ik P bE m w k L a b d made key nm ac sp Ls yP tab bs ks wait Γ dn todo
   ((L, .ns [(oS "self", some (gq P (ar P bE) m w k)), (oS "key", some (.str key)), (oS "body", some (iQ P nm (.int ac) (Ls.map ee) (.lst (bs.map cO)) sp)), (oS "rows", some (.lst (yP.map ee))), (oS "found", some (.raw (.ref a))), (oS "statements", sv), (oS "terminator", tv), (oS "told", dv)]) :: (b, .list (dn.map (r4 tab yP))) :: (L + 1, .cell (some (ar P (bF tab)))) :: qo m w k made wt sN ((a, .inst 336 d) :: (d, .fld (hG (.str key) (.int ac) (.lst (yP.map ee)) (.raw (.ref b)) sp)) :: Γ))
def fC {α β : Type} {f : α -> β} {xs : List α} {x : α} : (xs ++ [x]).map f = xs.map f ++ [f x] := List.map_append ..
def vN (ok : Ok G) {bM : aa} {bE : List (Str × AV)} {m w k e : Addr} {made : List (Str × AV)} {wait : List (Str × List Ty)} {ks : List Str} {nm : AV} {key : Str} {ac : Int} {sp : AV} {Ls : List Ty} {tab : List (Str × Ty)} {bs : List eC} {h j : Nat}
  (hF : cb G \/ ∀ b ∈ bs, ∀ at' k', b.2 ≠ .drop at' k') (hL : ∀ T ∈ Ls, deep tab T <= h) (Il : Ls.length <= 60) (hB : ∀ b ∈ bs, xW tab (Ls.map (plainT tab)) h b) (LU : bs.length <= 60)
  (AU : ks.length + bs.length <= 300) (CK : wait.length + bs.length <= 300) (hh : 40 <= h) (hj : h + 40 <= j) (hR : aj A (j + 1))
  (hx : ∀ b ∈ bs, B3 G A X bM Γ bE tab b.2)
  (q : oQ bE tab ks bs -> Q (iQ G.w.params (.str key) (.int ac) ((Ls.map (plainT tab)).map ee) (.lst (bs.map (r4 tab (Ls.map (plainT tab))))) (dD e sp)) (qo m w k made (qp tab ks wait bs) (qr tab ks bs) Γ)) :
  WC G A X (.ref 439) [gq G.w.params (ar G.w.params bE) m w k, .str key, iQ G.w.params nm (.int ac) (Ls.map ee) (.lst (bs.map cO)) (dD e sp), ar G.w.params (bF tab)] (qo m w k made wait ks Γ) Q := by
 have g1 := fU ok
 have g2 := pV ok
 have g3 := jC ok
 tm_at "def4X"
 intro L env A' X' eL fZ hD
 tm_at "go0"
 tm_at "v"
 (refine W1.aP Ty 1 [oS "T", oS "is_mut", oS "name"] [(oS ".0", .local), (oS "T", .local), (oS "is_mut", .local), (oS "name", .local), (oS "plain_type", .globalImplicit), (oS "table", .cell)] _ ‹_› (by kernel_rfl) (by tm_at "dk") (by tm_at "dk") (by tm_at "lent") (by tm_at "dm") (by tm_at "dk") (by tm_at "m") (by tm_at "dk") ?_)
 tm_at "v"
 refine aL.fn (ts := Ls) (e := ee) (e' := fun T => ee (plainT tab T)) (au.seq ‹_› rfl) (Nat.le_trans Il (by decide)) (fun X' aF D C acc dC t cp => ?_) ?_
 .have h1 := hL t cp
  tm_at "turn"
  intro I o
  tm_at "v"
  refine fW ok tab t (m := h + 4) (by tm_at "o") (by tm_at "r") ?_
  tm_at "v"
  tm_at "endturn"
 rw [mC ee (plainT tab)]
 refine .mk (by tm_at "p") (by tm_at "put") ?_
 tm_at "v"
 refine WE.cK ?_
 tm_at "v"
 intro b
 tm_at "v"
 refine oK (n := h) ok (ls := (Ls.map (plainT tab)).map ee) rfl (by rw [List.length_map, List.length_map]; exact Nat.le_trans Il (by decide)) rfl rfl (by tm_at "r") fun a d => ?_
 tm_at "v"
 generalize Ls.map (plainT tab) = yP at hB q ⊢
 refine W1.weak (ae := (L, .ns [(oS "self", some (gq G.w.params (ar G.w.params bE) m w k)), (oS "key", some (.str key)), (oS "body", some (iQ G.w.params nm (.int ac) (Ls.map ee) (.lst (bs.map cO)) (dD e sp))), (oS "rows", some (.lst (yP.map ee))), (oS "found", some (.raw (.ref a))), (oS "statements", none), (oS "terminator", none), (oS "told", none)]) :: (b, .list []) :: (L + 1, .cell (some (ar G.w.params (bF tab)))) :: qo m w k made wait ks ((a, .inst 336 d) :: (d, .fld (hG (.str key) (.int ac) (.lst (yP.map ee)) (.raw (.ref b)) (dD e sp))) :: Γ)) (by tm_at "w") ?_
 refine W1.AA 1 bs cO (Ik G.w.params bE m w k L a b d made key nm ac (dD e sp) Ls yP tab bs ks wait Γ) ?_ ?_ ?_
 .tm_at "v"
  exact ⟨au.seq ‹_› rfl, .mk (dn := []) ⟨rfl, rfl, id, AU, CK⟩⟩
 .intro ae dn bl todo e1 hI
  cases hI with | @mk wt sN sv tv dv p => ?_
  have B5 : bl ∈ bs := by rw [e1]; exact List.mem_append_right _ (.head _)
  have hb := hB bl B5
  have Gz : dn.length <= 60 := by have := congrArg List.length e1; rw [List.length_append] at this; tm_at "o"
  have e6 : sN.length <= 300 := Nat.le_trans (Nat.le_add_right _ _) p.kl
  have e7 : wt.length <= 300 := Nat.le_trans (Nat.le_add_right _ _) p.wl
  tm_at "turn"
  intro I o
  tm_at "v"
  (refine W1.aP Row 1 [oS "statement"] [(oS ".0", .local), (oS "statement", .local), (oS "plain_statement", .globalImplicit), (oS "table", .cell)] _ ‹_› (by kernel_rfl) (by tm_at "dk") (by tm_at "dk") (by tm_at "lent") (by tm_at "dm") (by tm_at "dk") (by tm_at "m") (by tm_at "dk") ?_)
  tm_at "v"
  refine aL.fn (ts := bl.1) (e := cD) (e' := fun r => cD (dX tab r)) (au.seq ‹_› rfl) (Nat.le_trans hb.n (by decide)) (fun X' aF D C acc dC t cp => ?_) ?_
  .have h1 := hb.rows t cp
   tm_at "turn"
   intro I o
   tm_at "v"
   exact lr ok tab t (m := h) h1 (by tm_at "r") (by tm_at "endturn")
  rw [mC cD (dX tab)]
  refine .mk (by tm_at "p") (by tm_at "put") ?_
  tm_at "v"
  refine WM.append (by tm_at "p") ?_
  tm_at "v"
  refine WE.list ?_
  tm_at "v"
  refine WM.inst (f := 446) .d8 rfl (by tm_at "Kk") ?_
  tm_at "v"
  refine WC.weak (ao.pick (a := m) (by tm_at "p") (ao.pick (a := w) (by tm_at "p") (ao.pick (a := k) (by tm_at "p") (ao.pick (a := a) (by tm_at "p") (ao.pick (a := d) (by tm_at "p") (ao.refl _)))))) ?_
  refine kq (bM := bM) (h := h) (j := h + 35) ok bl.2 (hF.imp id fun z => z bl B5) hb.tm (by tm_at "o") (by tm_at "o") hh (by tm_at "o") (by tm_at "r") ?_ fun Bn => ?_
  .refine (hx bl B5).mono fun r => ?_
   obtain ⟨fs, tn⟩ := r.frames
   refine RX.pM hD (r.into hD eL.kind (by tm_at "m") (by tm_at "memh")) tn
  .tm_at "v"
   refine WC.append (by tm_at "p") (by rw [List.length_map, sizeLine_eq]; tm_at "o") ?_
   tm_at "v"
   exact Az (by rw [fC]; tm_at "turn"; tm_at "w") (.mk (p.next Bn))
 .intro ae hI
  cases hI with | @mk wt sN sv tv dv p => ?_
  have hq := q (p.go trivial)
  rw [show qp tab ks wait bs = wt from p.w.symm, show qr tab ks bs = sN from p.k.symm] at hq
  refine WS.seen (Seen.vM (ao.pick (a := d) (by tm_at "p") (ao.pick (a := b) (by tm_at "p") (ao.refl _))) (.there (.there (.there .here)))) ?_
  refine WS.seen (Seen.oV (x := (oS "found")) (ao.pick (a := L) (by tm_at "p") (ao.pick (a := a) (by tm_at "p") (ao.pick (a := d) (by tm_at "p") (ao.refl _)))) (by tm_at "m") (by tm_at "put")) ?_
  tm_at "v"
  exact Fin.mk (by tm_at "w") hq
end
section
def nQ (ok : Ok G) {wv bv : AV} (hw : wv.handed = true) (hb : bv.handed = true) (hR : aj A (n + 2)) (q : ∀ m w k, Q (gj G.w.params 449 (uI wv bv m w k)) (qo m w k [] [] [] Γ)) : WC G A X (.ref 449) [wv, bv] Γ Q := by
 refine WC.fin (WC.make (n := n + 1) (fI := 415) hR (by tm_at "Kk") (by tm_at "Kk") (by tm_at "Kk") fun a d A' X' fZ => ?_)
 refine WF.def (ns := [oS "self", oS "world", oS "bodies"]) (ys := []) (ds := []) (by tm_at "Kr") (by tm_at "Kk") fZ (by intro s S _ _ _ ; exact kp_binds S.iC (fun _ => by tm_at "Kk")) (fun _ _ => .nil) rfl (by tm_at "dk") (by dsimp only [List.zip, List.zipWith, List.cons_append, List.nil_append, List.append_nil]; tm_at "lay") ?_
 tm_at "go"
 tm_at "v"
 refine WE.fQ fun m => ?_
 tm_at "v"
 refine WE.cK ?_
 tm_at "v"
 intro w
 tm_at "v"
 refine WE.fQ fun k => ?_
 tm_at "v"
 refine Fin.mk (ae := (a, .inst 449 d) :: (d, .fld (uI wv bv m w k)) :: qo m w k [] [] [] Γ) (by dsimp only [qo, oP, List.map]; tm_at "w") ⟨rfl, ?_⟩
 exact Fin.d8 (P := [(a, .inst 449 d), (d, .fld (uI wv bv m w k))]) (.refl _) kL.inst (q m w k)
structure BD where
 ac : Int
 e : Addr
 sp : AV
 nm : AV
 Ls : List Ty
 bs : List eC
noncomputable def bw (P : Params) (D : BD) : AV := iQ P D.nm (.int D.ac) (D.Ls.map ee) (.lst (D.bs.map cO)) (dD D.e D.sp)
noncomputable abbrev fg (P : Params) (key : Str) (tab : List (Str × Ty)) (D : BD) : AV := iQ P (.str key) (.int D.ac) ((D.Ls.map (plainT tab)).map ee) (.lst (D.bs.map (r4 tab (D.Ls.map (plainT tab))))) (dD D.e D.sp)
structure hO (p : Str × List Ty) : Prop where
 ok : PyData.strOk p.1 = true
 n : p.2.length <= 2
 pl : ∀ t ∈ p.2, isPlain t = true
theorem tW {p : Str × List Ty} (h : hO p) : PyData.strOk (cf p.1 p.2) = true := by
 obtain ⟨path, ts⟩ := p
 obtain ⟨h1, h2, h3⟩ := h
 have c : ∀ s : Str, PyData.strOk s = true -> PyData.strOk (path ++ (oS "<") ++ s ++ (oS ">")) = true := fun s hs => a6 (a6 (a6 h1 (by tm_at "dk")) hs) (by tm_at "dk")
 cases ts with
 | nil => exact h1
 | cons t ts =>
 have k1 := p8 (h3 t (.head _))
 cases ts with
 | nil => exact c (Str.join _ [aq t]) k1
 | cons u ts =>
 cases ts with
 | nil => exact c (Str.join _ [aq t, aq u]) (a6 (a6 k1 (by tm_at "dk")) (p8 (h3 u (.tail _ (.head _)))))
 | cons v ts => exact absurd (Nat.le_of_succ_le_succ (Nat.le_of_succ_le_succ h2)) (Nat.not_succ_le_zero _)
def vO : ∀ {wt : List (Str × List Ty)}, (∀ p ∈ wt, hO p) -> ∃ ds, AV.a7 (wt.map xU) = some ds /\ PyData.canLayAll0 ds = true := by
 intro wt; induction wt with
 | nil => intro _; exact ⟨[], rfl, rfl⟩
 | cons p wt ih =>
  intro h
  obtain ⟨ds, h1, h2⟩ := ih fun q hq => h q (.tail _ hq)
  have hp := h p (.head _)
  refine ⟨.tuple [.str (cf p.1 p.2), .str p.1, .tuple (p.2.map encD)] :: ds, ?_, ?_⟩
  ·(dsimp only [List.map, AV.a7, AV.data]; rw [eu, h1]; rfl)
  .simp only [PyData.canLayAll0, PyData.canLay0, tW hp, hp.ok, fz fun t ht => bI (hp.pl t ht), h2, Bool.and_self]
structure Ready (G : Base) (A : Around) (X : Value -> Shared -> Prop) (bM Γ : aa) (bE : List (Str × AV)) (path : Str) (ts : List Ty) (ns : List Str) (D : BD) (h : Nat) : Prop where
 sg : bH (uB G.w.params) path = some (rW G.w.params path ns)
 nl : ns.length <= 60
 nd : ns.Nodup
 pl : path.length <= 1000
 bd : bH bE path = some (bw G.w.params D)
 fl : ns.length = ts.length -> (cb G \/ ∀ b ∈ D.bs, ∀ at' k', b.2 ≠ .drop at' k') /\ (∀ T ∈ D.Ls, deep (ns.zip ts) T <= h) /\ D.Ls.length <= 60 /\ (∀ b ∈ D.bs, xW (ns.zip ts) (D.Ls.map (plainT (ns.zip ts))) h b) /\ D.bs.length <= 60 /\ ∀ b ∈ D.bs, B3 G A X bM Γ bE (ns.zip ts) b.2
 x1 : ns.length ≠ ts.length -> RX G A X bM Γ
def WB.DZ {α : Type} {f : α -> AV} {ts : List α} {a : Addr} {R : aa} {ds : List PyData} (hR : aj A n) (p : aC a (.list (ts.map f)) Γ R) (d1 : AV.a7 (ts.map f) = some ds) (d2 : PyData.canLayAll0 ds = true) (q0 : ts = [] -> Q (.raw (.bool false)) Γ) (q1 : ∀ t r, ts = t :: r -> Q (.raw (.bool true)) Γ) :
  WB G A X (compareOp .NotEq) Rep (.raw (.ref a)) (.lst []) Γ Q := by
 refine WB.ne_nil hR (.list p) d1 d2 ?_
 cases ts with
 | nil => exact q0 rfl
 | cons t r => exact q1 t r rfl
def WC.D0 {α : Type} {f : α -> AV} {ts r : List α} {t : α} {a : Addr} {R : aa} (e : ts = t :: r) (p : aC a (.list (ts.map f)) Γ R) (hz : ts.length <= 1000) (q : Q (f t) ((a, .list (r.map f)) :: R)) : WC G A X (.builtin "list.pop") [.raw (.ref a), .int 0] Γ Q := by
 cases e
 exact WC.ve p (by rw [List.length_map]; exact Nat.le_trans hz (by decide)) q
inductive Im (P : Params) (bE : List (Str × AV)) (m w k L : Addr) (I : Nat -> List (Str × AV) -> List (Str × List Ty) -> List Str -> Prop) (Γ : aa) : Nat -> aa -> Prop
 | mk {kv pv tv bv : Option AV} {md : List (Str × AV)} {wt : List (Str × List Ty)} {ks : List Str} {k1 : Nat} (i : I k1 md wt ks) : Im P bE m w k L I Γ k1 ((L, .ns [(oS "self", some (gq P (ar P bE) m w k)), (oS "key", kv), (oS "path", pv), (oS "types", tv), (oS "table", bv)]) :: qo m w k md wt ks Γ)
def xX (ok : Ok G) {bM : aa} {bE : List (Str × AV)} {m w k : Addr} {h j : Nat} (I : Nat -> List (Str × AV) -> List (Str × List Ty) -> List Str -> Prop) {made : List (Str × AV)} {wait : List (Str × List Ty)} {ks : List Str} {k0 : Nat}
  (h0 : I k0 made wait ks) (hI : ∀ k made wait ks, I k made wait ks -> (∀ p ∈ wait, hO p) /\ ks.length <= 200 /\ wait.length <= 200 /\ made.length <= 200)
  (xY : ∀ k made path ts rest ks, I k made ((path, ts) :: rest) ks -> ∃ ns D, Ready G A X bM Γ bE path ts ns D h /\ (ns.length = ts.length -> oQ bE (ns.zip ts) ks D.bs ->
   ∃ j, j < k /\ I j (bN made (cf path ts) (fg G.w.params (cf path ts) (ns.zip ts) D)) (qp (ns.zip ts) ks rest D.bs) (qr (ns.zip ts) ks D.bs)))
  (hh : 40 <= h) (hj : h + 50 <= j) (hR : aj A (j + 1)) (q : ∀ k1 made ks, I k1 made [] ks -> Q (.raw .none) (qo m w k made [] ks Γ)) :
  WC G A X (.ref 434) [gq G.w.params (ar G.w.params bE) m w k] (qo m w k made wait ks Γ) Q := by
 have g1 := jB ok
 tm_at "def1X"
 intro L env A' X' eL fZ hD
 tm_at "go0"
 tm_at "v"
 refine W1.xc (Im G.w.params bE m w k L I Γ) ⟨k0, .mk h0⟩ ?_
 intro k1 ae hi
 cases hi with | @mk kv pv tv bv md wt LV _ hi => ?_
 k_dflt obtain ⟨w1, w2, w3, w4⟩ := hI _ _ _ _ hi
 k_dflt obtain ⟨ds, d1, d2⟩ := vO w1
 tm_at "v"
 refine WE.list ?_
 tm_at "v"
 refine WB.DZ ‹_› (by tm_at "p") d1 d2 (fun e => ?_) fun p rest e => ?_
 .have hq := q _ _ _ (e ▸ hi)
  rw [e]
  tm_at "v"
  exact Fin.mk (by tm_at "w") hq
 have wp := w1 p (e ▸ .head _)
 k_dflt obtain ⟨ns, D, rd, go⟩ := xY _ _ p.1 p.2 rest _ (e ▸ hi)
 have GO : p.2.length <= 60 := Nat.le_trans wp.n (by decide)
 have w5 : rest.length <= 200 := Nat.le_trans (Nat.le_succ _) (Nat.le_trans (Nat.le_of_eq (congrArg List.length e).symm) w3)
 tm_at "v"
 refine WM.pop (by tm_at "p") ?_
 tm_at "v"
 refine WC.D0 e (by tm_at "p") (Nat.le_trans w3 (by decide)) ?_
 tm_at "v"
 refine lx ok (bM := bM) (n := h) rd.sg rd.nl GO rd.nd rd.pl (by tm_at "r") (fun iG => ?_) fun heq => ?_
 .have r := rd.x1 iG
  obtain ⟨fs, tn⟩ := r.frames
  exact RX.pM hD (r.into hD eL.kind (by tm_at "m") (by tm_at "memh")) tn
 k_dflt obtain ⟨f1, f2, f3, f4, f5, f6⟩ := rd.fl heq
 tm_at "v"
 refine WM.inst (f := 439) .d8 rfl (by tm_at "Kk") ?_
 tm_at "v"
 refine WB.item_dict .d8 (y := bw G.w.params D) rd.bd ?_
 tm_at "v"
 refine WC.weak (ao.pick (a := m) (by tm_at "p") (ao.pick (a := w) (by tm_at "p") (ao.pick (a := k) (by tm_at "p") (ao.refl _)))) ?_
 refine vN (bM := bM) (h := h) (j := h + 45) ok f1 f2 f3 f4 f5 (by tm_at "o") (by tm_at "o") hh (by tm_at "o") (by tm_at "r") (fun b hb => ?_) fun Bn => ?_
 .refine (f6 b hb).mono fun r => ?_
  obtain ⟨fs, tn⟩ := r.frames
  exact RX.pM hD (r.into hD eL.kind (by tm_at "m") (by tm_at "memh")) tn
 .obtain ⟨j1, KU, KV⟩ := go heq Bn
  tm_at "v"
  refine WK.dict (by tm_at "p") (Nat.le_trans w4 (by decide)) ?_
  tm_at "v"
  exact zj (by tm_at "w") KU (.mk KV)
def instances (ok : Ok G) {bM : aa} {bE : List (Str × AV)} {h j : Nat} (I : Nat -> List (Str × AV) -> List (Str × List Ty) -> List Str -> Prop) {k0 : Nat}
  (h0 : (bH bE (oS "main")).isSome = true -> I k0 [] [(oS "main", [])] [oS "main"]) (hI : ∀ k made wait ks, I k made wait ks -> (∀ p ∈ wait, hO p) /\ ks.length <= 200 /\ wait.length <= 200 /\ made.length <= 200)
  (xY : ∀ k made path ts rest ks, I k made ((path, ts) :: rest) ks -> ∃ ns D, Ready G A X bM Γ bE path ts ns D h /\ (ns.length = ts.length -> oQ bE (ns.zip ts) ks D.bs ->
   ∃ j, j < k /\ I j (bN made (cf path ts) (fg G.w.params (cf path ts) (ns.zip ts) D)) (qp (ns.zip ts) ks rest D.bs) (qr (ns.zip ts) ks D.bs)))
  (hm : (bH bE (oS "main")).isSome = true)
  (hh : 40 <= h) (hj : h + 60 <= j) (hR : aj A (j + 1)) (q : ∀ k1 made ks, I k1 made [] ks -> Q (ar G.w.params made) Γ) :
  WC G A X (.ref 465) [bR G.w.params, ar G.w.params bE, .str (oS "main")] Γ Q := by
 have g1 := rN ok
 tm_at "def3X"
 intro L env A' X' eL fZ hD
 tm_at "go0"
 tm_at "v"
 refine nQ (n := h) ok rfl rfl (by tm_at "r") fun m w k => ?_
 tm_at "v"
 refine WM.inst (f := 420) .d8 rfl (by tm_at "Kk") ?_
 tm_at "v"
 refine WC.weak (ao.pick (a := m) (by tm_at "p") (ao.pick (a := w) (by tm_at "p") (ao.pick (a := k) (by tm_at "p") (ao.refl _)))) ?_
 refine wanted (bM := []) (path := (oS "main")) (ts := []) (wait := []) (ks := []) (made := []) (h := h) (j := h + 20) ok (Nat.zero_le _) (List.forall_mem_nil _) ⟨(List.forall_mem_nil _), (List.forall_mem_nil _), by decide +kernel⟩ (Nat.zero_le _) (Nat.zero_le _) (by tm_at "o") (by tm_at "r") (List.forall_mem_nil _) (fun hb => by rw [hb] at hm; cases hm) fun _ _ => ?_
 tm_at "v"
 refine WM.inst (f := 434) .d8 rfl (by tm_at "Kk") ?_
 tm_at "v"
 refine WC.weak (ao.pick (a := m) (by tm_at "p") (ao.pick (a := w) (by tm_at "p") (ao.pick (a := k) (by tm_at "p") (ao.refl _)))) ?_
 refine xX (bM := bM) (h := h) (j := h + 55) ok I (h0 hm) hI (fun k made path ts rest ks hi => ?_) hh (by tm_at "o") (by tm_at "r") fun k1 made ks hi => ?_
 .k_dflt obtain ⟨ns, D, rd, go⟩ := xY k made path ts rest ks hi
  refine An ns D ⟨⟨rd.sg, rd.nl, rd.nd, rd.pl, rd.bd, fun he => ?_, fun iG => (rd.x1 iG).into hD eL.kind (by tm_at "m") (by tm_at "memh")⟩, go⟩
  k_dflt obtain ⟨f1, f2, f3, f4, f5, f6⟩ := rd.fl he
  exact ⟨f1, f2, f3, f4, f5, fun b hb => (f6 b hb).mono fun r => r.into hD eL.kind (by tm_at "m") (by tm_at "memh")⟩
 .have hq := q _ _ _ hi
  tm_at "v"
  exact Fin.d8 (P := [(m, .bj made)]) (R := Γ) (show ao _ ((m, .bj made) :: Γ) from ao.pick (a := m) (by tm_at "p") (by tm_at "w")) kL.dict hq
end
section
def zV (ok : Ok G) {x1 x2 x3 x4 x5 x6 x7 x8 : AV} (hR : aj A (n + 2)) (q : Q (gj G.w.params 505 [(oS "path", x1), (oS "regions", x2), (oS "params", x3), (oS "own", x4), (oS "inputs", x5), (oS "output", x6), (oS "self_kind", x7), (oS "has_body", x8)]) Γ) : WC G A X (.ref 505) [x1, x2, x3, x4, x5, x6, x7, x8] Γ Q := by
 refine WC.fin (WC.make (n := n + 1) (fI := 502) hR (by tm_at "Kk") (by tm_at "Kk") (by tm_at "Kk") fun a d A' X' fZ => ?_)
 refine WF.def (ns := [oS "self", oS "path", oS "regions", oS "params", oS "own", oS "inputs", oS "output", oS "self_kind", oS "has_body"]) (ys := []) (ds := []) (by tm_at "Kr") (by tm_at "Kk") fZ (by intro s S _ _ _ _ _ _ _ _ _ ; exact kp_binds S.iC (fun _ => by tm_at "Kk")) (fun _ _ => .nil) rfl (by tm_at "dk") (by dsimp only [List.zip, List.zipWith, List.cons_append, List.nil_append, List.append_nil]; tm_at "lay") ?_
 tm_at "go"
 tm_at "v"
 exact Fin.mk (ae := (a, .inst 505 d) :: (d, .fld [(oS "path", x1), (oS "regions", x2), (oS "params", x3), (oS "own", x4), (oS "inputs", x5), (oS "output", x6), (oS "self_kind", x7), (oS "has_body", x8)]) :: Γ) (by tm_at "w") ⟨rfl, Fin.d8 (P := [(a, .inst 505 d), (d, .fld _)]) (.refl _) kL.inst q⟩
def zW (ok : Ok G) {x1 x2 x3 x4 x5 : AV} (hR : aj A (n + 2)) (q : Q (gj G.w.params 484 [(oS "path", x1), (oS "module", .str (oS "")), (oS "regions", x2), (oS "params", x3), (oS "variants", x4), (oS "publics", .tup []), (oS "is_enum", x5)]) Γ) : WC G A X (.ref 484) [x1, x2, x3, x4, x5] Γ Q := by
 refine WC.fin (WC.make (n := n + 1) (fI := 481) hR (by tm_at "Kk") (by tm_at "Kk") (by tm_at "Kk") fun a d A' X' fZ => ?_)
 refine WF.def (ns := [oS "self", oS "path", oS "regions", oS "params", oS "variants", oS "is_enum", oS "module", oS "publics"]) (ys := [.str (oS ""), .tup []]) (ds := [.str (oS "") 857, .ref 473]) (by tm_at "Kr") (by tm_at "Kk") fZ (by intro s S _ _ _ _ _ _ ; exact kp_binds S.iC (fun _ => by tm_at "Kk")) (fun s S => .cons (.str _ _) (.one (fL.tup (vs := []) (xs := []) (by tm_at "Kr") (fun _ _ _ => .nil) _ s S))) rfl (by tm_at "dk") (by dsimp only [List.zip, List.zipWith, List.cons_append, List.nil_append, List.append_nil]; tm_at "lay") ?_
 tm_at "go"
 tm_at "v"
 exact Fin.mk (ae := (a, .inst 484 d) :: (d, .fld [(oS "path", x1), (oS "module", .str (oS "")), (oS "regions", x2), (oS "params", x3), (oS "variants", x4), (oS "publics", .tup []), (oS "is_enum", x5)]) :: Γ) (by tm_at "w") ⟨rfl, Fin.d8 (P := [(a, .inst 484 d), (d, .fld _)]) (.refl _) kL.inst q⟩
def vP (ok : Ok G) {x1 : AV} (hR : aj A (n + 2)) (q : ∀ a d e f, Q (.raw (.ref a)) ((a, .inst 534 d) :: (d, .fld [(oS "modules", x1), (oS "adts", .raw (.ref e)), (oS "variants", ar G.w.params []), (oS "sigs", .raw (.ref f)), (oS "traits", ar G.w.params []), (oS "impls", .lst []), (oS "consts", ar G.w.params []), (oS "bodies", ar G.w.params [])]) :: (e, .bj []) :: (f, .bj []) :: Γ)) : WC G A X (.ref 534) [x1] Γ Q := by
 refine WC.make (n := n + 1) (fI := 524) hR (by tm_at "Kk") (by tm_at "Kk") (by tm_at "Kk") fun a d A' X' fZ => ?_
 refine WF.def (ns := [oS "self", oS "modules"]) (ys := []) (ds := []) (by tm_at "Kr") (by tm_at "Kk") fZ (by intro s S _ _ ; exact kp_binds S.iC (fun _ => by tm_at "Kk")) (fun _ _ => .nil) rfl (by tm_at "dk") (by dsimp only [List.zip, List.zipWith, List.cons_append, List.nil_append, List.append_nil]; tm_at "lay") ?_
 tm_at "go"
 tm_at "v"
 refine WE.fQ fun e => ?_
 tm_at "v"
 refine WE.rm ?_
 tm_at "v"
 refine WE.fQ fun f => ?_
 tm_at "v"
 refine WE.rm ?_
 tm_at "v"
 refine WE.list ?_
 tm_at "v"
 refine WE.rm ?_
 tm_at "v"
 refine WE.rm ?_
 tm_at "v"
 exact Fin.mk (by tm_at "w") ⟨rfl, q a d e f⟩
def xZ (ok : Ok G) {path : Str} {ns : List Str} (hR : aj A (n + 2)) (q : Q (rW G.w.params path ns) Γ) : WC G A X (.ref 505) [.str path, .tup [], lF ns, lF ns, .tup [], enc .dj, .raw .none, .raw (.bool true)] Γ Q := zV ok hR q
def x9 (ok : Ok G) (hR : aj A (n + 2)) (q : Q (nN G.w.params) Γ) : WC G A X (.ref 484) [.str (oS "G"), .tup [.str (oS "'a")], .tup [.str (oS "T")], .lst [.tup [.str (oS "G"), .str (oS "tuple"), .lst [.tup [.str (oS "0"), enc qf]]]], .raw (.bool false)] Γ Q := zW ok hR q
def WK.uK {es : List (Str × AV)} {k : Str} {y : AV} {a : Addr} {R : aa} {Q : aa -> Prop} (p : aC a (.bj es) Γ R) (hz : es.length <= 1000) (h : k ∉ es.map (·.1)) (q : Q ((a, .bj (es ++ [(k, y)])) :: R)) : WK G A X (.raw (.ref a)) (.str k) y Γ Q :=
 WK.dict p (Nat.le_trans hz (by decide)) (by rw [gb h]; exact q)
inductive Io (P : Params) (L a d e f : Addr) (Γ : aa) (dn todo : List (Str × List Str)) : aa -> Prop
 | mk {pv nv bv : Option AV} : Io P L a d e f Γ dn todo ((L, .ns [(oS "world", some (.raw (.ref a))), (oS "path", pv), (oS "names", nv), (oS "bounds", bv), (oS "inner", none)]) :: (f, .bj (dn.map fun p => (p.1, rW P p.1 p.2))) :: (a, .inst 534 d) :: (d, .fld [(oS "modules", .raw .none), (oS "adts", .raw (.ref e)), (oS "variants", ar P []), (oS "sigs", .raw (.ref f)), (oS "traits", ar P []), (oS "impls", .lst []), (oS "consts", ar P []), (oS "bodies", ar P [])]) :: (e, .bj []) :: Γ)
def r5 {dn todo : List (Str × List Str)} {p : Str × List Str} (e : f7 = dn ++ p :: todo) : p.2.length <= 2 /\ dn.length <= 1000 /\ p.1 ∉ dn.map (·.1) := by
 have hp : p ∈ f7 := by rw [e]; exact List.mem_append_right _ (.head _)
 have hd : (f7.map (·.1)).Nodup := by decide
 have hl := congrArg List.length e
 rw [e, List.map_append, List.nodup_append] at hd
 rw [List.length_append] at hl
 exact ⟨(show ∀ p ∈ f7, p.2.length <= 2 by decide) p hp, Nat.le_trans (Nat.le_add_right _ _) (hl ▸ (by decide : f7.length <= 1000)), fun h => hd.2.2 _ h _ (.head _) rfl⟩
def oW (ok : Ok G) (hR : aj A (n + 10)) (q : Q (bR G.w.params) Γ) : WC G A X (.ref 622) [] Γ Q := by
 have g1 := zE ok
 have g2 := DR ok
 have g3 := DQ ok
 have g4 := dP ok
 have su := jK ok
 tm_at "def0X"
 intro L env A' X' eL fZ hD
 tm_at "go0"
 tm_at "v"
 refine vP (n := n) ok (by tm_at "r") fun a d e f => ?_
 tm_at "v"
 refine W1.weak (ae := (L, .ns [(oS "world", some (.raw (.ref a))), (oS "path", none), (oS "names", none), (oS "bounds", none), (oS "inner", none)]) :: (f, .bj []) :: (a, .inst 534 d) :: (d, .fld [(oS "modules", .raw .none), (oS "adts", .raw (.ref e)), (oS "variants", ar G.w.params []), (oS "sigs", .raw (.ref f)), (oS "traits", ar G.w.params []), (oS "impls", .lst []), (oS "consts", ar G.w.params []), (oS "bodies", ar G.w.params [])]) :: (e, .bj []) :: Γ) (by tm_at "w") ?_
 refine W1.forL 1 f7 (fun p => .tup [.str p.1, .lst (p.2.map .str)]) (Io G.w.params L a d e f Γ) ?_ ?_ ?_
 .refine WE.list ?_
  tm_at "v"
  refine WE.list ?_
  tm_at "v"
  refine WE.list ?_
  tm_at "v"
  refine WE.list ?_
  tm_at "v"
  refine WE.list ?_
  tm_at "v"
  refine WE.list ?_
  tm_at "v"
  exact ⟨au.seq ‹_› rfl, .mk⟩
 .intro X3 ae dn p todo e1 hI
  cases hI with | @mk pv nv bv => ?_
  k_dflt obtain ⟨hl, yR, va⟩ := r5 e1
  tm_at "turn"
  intro I o
  tm_at "v"
  (refine W1.aP Str 1 [oS "name"] [(oS ".0", .local), (oS "name", .local)] _ ‹_› (by kernel_rfl) (by tm_at "dk") (by tm_at "dk") (by tm_at "lent") (by tm_at "dm") (by tm_at "dk") (by tm_at "m") (by tm_at "dk") ?_)
  tm_at "v"
  refine aL.fn (ts := p.2) (e := .str) (e' := fun n => .tup [.str n, .tup []]) (au.seq ‹_› rfl) (Nat.le_trans hl (by decide)) (fun X' aF D C acc dC t cp => ?_) ?_
  .tm_at "turn"
   intro I o
   tm_at "v"
   tm_at "endturn"
  refine .mk (by tm_at "p") (by tm_at "put") ?_
  tm_at "v"
  refine xZ (n := n) (path := p.1) (ns := p.2) ok (by tm_at "r") ?_
  tm_at "v"
  refine WK.uK (by tm_at "p") (by rw [List.length_map]; exact yR) (by rw [List.map_map]; exact va) ?_
  tm_at "v"
  exact Az (by rw [fC]; tm_at "turn"; tm_at "w") .mk
 .intro ae hI
  cases hI with | @mk pv nv bv => ?_
  tm_at "v"
  refine WE.list ?_
  tm_at "v"
  refine WE.list ?_
  tm_at "v"
  refine x9 (n := n) ok (by tm_at "r") ?_
  tm_at "v"
  refine WK.dict (by tm_at "p") (Nat.zero_le _) ?_
  refine WS.seen (Seen.oU (ao.pick (a := d) (by tm_at "p") (ao.pick (a := e) (by tm_at "p") (ao.refl _))) (.there .here)) ?_
  refine WS.seen (Seen.oU (ao.pick (a := d) (by tm_at "p") (ao.pick (a := f) (by tm_at "p") (ao.refl _))) (.there (.there (.there .here)))) ?_
  refine WS.seen (Seen.oV (x := (oS "world")) (ao.pick (a := L) (by tm_at "p") (ao.pick (a := a) (by tm_at "p") (ao.pick (a := d) (by tm_at "p") (ao.refl _)))) (by tm_at "m") (by tm_at "put")) ?_
  tm_at "v"
  tm_at "fq"
end
section
def ya (ok : Ok G) {zs : List Int} (hz : zs.length <= 1000) (hR : aj A (n + 2)) (q : ∀ a x y, i0 x y -> Q (.raw (.ref a)) ((a, .list [.int x, .int y]) :: Γ)) : WC G A X (.ref 545) [.lst (zs.map .int), .int 0] Γ Q := by
 have b1 := iP ok
 have b2 := DS ok
 have b3 := AO ok
 tm_at "def2n"
 intro L env A' X' eL fZ
 tm_at "go0"
 tm_at "v"
 refine WC.cn rfl (by rw [List.length_map, sizeLine_eq]; tm_at "o") ?_
 refine WB.lt_int ?_
 rcases zs with _ | ⟨z, zs⟩
 .rw [show decide ((0 : Int) < ((([] : List Int).map AV.int).length : Int)) = false from rfl]
  tm_at "v"
  refine WC.int_int ?_
  tm_at "v"
  refine WB.sub_int ?_
  tm_at "v"
  refine WC.int_int ?_
  tm_at "v"
  refine WC.max2 ‹_› ?_
  tm_at "v"
  have hb : 0 <= (if -1 - (0 : Int) > 0 then -1 - (0 : Int) else 0) := by split <;> omega
  generalize (if -1 - (0 : Int) > 0 then -1 - (0 : Int) else 0) = bg at hb ⊢
  refine WC.int_int ?_
  tm_at "v"
  refine WB.mod_int (by decide) ?_
  tm_at "v"
  refine WB.mul_int (.inr (by decide)) ?_
  tm_at "v"
  refine WB.mul_int (.inr (by decide)) ?_
  tm_at "v"
  refine WB.add_int ?_
  tm_at "v"
  refine WB.mul_int (.inr (by decide)) ?_
  tm_at "v"
  refine WB.add_int ?_
  tm_at "v"
  refine WB.add_int ?_
  tm_at "v"
  refine WB.mul_int (.inr (by decide)) ?_
  tm_at "v"
  refine WC.int_int ?_
  tm_at "v"
  refine WB.mod_int (by decide) ?_
  tm_at "v"
  refine WE.cK ?_
  tm_at "v"
  refine WB.pow_int (by decide) (by decide) (by decide) ?_
  tm_at "v"
  refine WB.ge_int ?_
  tm_at "v"
  refine WC.int_bool ?_
  tm_at "v"
  refine WB.mul_int (.inr (by split <;> decide)) ?_
  tm_at "v"
  intro a
  refine Fin.mk (by tm_at "w") (q a _ _ ⟨?_, Int.fmod_nonneg_of_pos _ (by decide), Int.fmod_lt_of_pos _ (by decide)⟩)
  split
  .omega
  .omega
 .rw [show decide ((0 : Int) < (((z :: zs).map AV.int).length : Int)) = true from by simp]
  tm_at "v"
  refine WC.int_int ?_
  tm_at "v"
  refine WB.sub_int ?_
  tm_at "v"
  refine WC.int_int ?_
  tm_at "v"
  refine WC.max2 ‹_› ?_
  tm_at "v"
  have hb : 0 <= (if -1 - (z : Int) > z then -1 - (z : Int) else z) := by split <;> omega
  generalize (if -1 - (z : Int) > z then -1 - (z : Int) else z) = bg at hb ⊢
  refine WC.int_int ?_
  tm_at "v"
  refine WB.mod_int (by decide) ?_
  tm_at "v"
  refine WB.mul_int (.inr (by decide)) ?_
  tm_at "v"
  refine WB.mul_int (.inr (by decide)) ?_
  tm_at "v"
  refine WB.add_int ?_
  tm_at "v"
  refine WB.mul_int (.inr (by decide)) ?_
  tm_at "v"
  refine WB.add_int ?_
  tm_at "v"
  refine WB.add_int ?_
  tm_at "v"
  refine WB.mul_int (.inr (by decide)) ?_
  tm_at "v"
  refine WC.int_int ?_
  tm_at "v"
  refine WB.mod_int (by decide) ?_
  tm_at "v"
  refine WE.cK ?_
  tm_at "v"
  refine WB.pow_int (by decide) (by decide) (by decide) ?_
  tm_at "v"
  refine WB.ge_int ?_
  tm_at "v"
  refine WC.int_bool ?_
  tm_at "v"
  refine WB.mul_int (.inr (by split <;> decide)) ?_
  tm_at "v"
  intro a
  refine Fin.mk (by tm_at "w") (q a _ _ ⟨?_, Int.fmod_nonneg_of_pos _ (by decide), Int.fmod_lt_of_pos _ (by decide)⟩)
  split
  .omega
  .omega
noncomputable def ef : List Ty := [.dj, .par (oS "A"), .par (oS "B"), .ref (some (oS "'x")) false (.par (oS "A")), .bP (.par (oS "A")) (.i (oS "i32")), .box (.par (oS "B")), .bU (some (oS "'x")) (.par (oS "A")), .bool, .arr (.par (oS "B")) 2, .i (oS "i64")]
def tX (ok : Ok G) (hR : aj A (n + 3)) (q : Q (.lst (ef.map ee)) Γ) : WC G A X (.ref 602) [] Γ Q := by
 have g1 := dP ok
 have g2 := fV ok
 have g3 := fb ok
 have g4 := gV ok
 have s1 := jK ok
 have s2 := qd ok
 have s3 := qe ok
 tm_at "def0X"
 intro L env A' X' eL fZ hD
 tm_at "go0"
 tm_at "v"
 refine WE.list ?_
 tm_at "v"
 refine i4 (n := n) ok (by tm_at "r") ?_
 tm_at "v"
 (refine WE.aP Ty 1 [oS "T"] [(oS ".0", .local), (oS "T", .local)] _ ‹_› (by kernel_rfl) (by tm_at "dk") (by tm_at "dk") (by tm_at "lent") (by tm_at "dm") (by tm_at "dk") ?_)
 tm_at "v"
 refine WE.list ?_
 tm_at "v"
 refine WB.ez .lst .lst (short rfl) ?_
 refine aL.fn (ts := ef) (e := enc) (e' := ee) (au.seq ‹_› rfl) (short rfl) (fun X' aF D C acc dC t cp => ?_) ?_
 .tm_at "turn"
  intro I o
  tm_at "v"
  tm_at "endturn"
 tm_at "v"
 tm_at "fq"
noncomputable def place (k : Int) : AV := .tup [.int k, .tup []]
noncomputable def hW {α : Type} : Int -> List α -> List (Int × α)
 | _, [] => []
 | i, c :: cs => (i, c) :: hW (i + 1) cs
theorem mN {α : Type} (e : α -> AV) : ∀ (cs : List α) (i : Int), dM i (cs.map e) = (hW i cs).map fun p => .tup [.int p.1, e p.2]
 | [], _ => rfl
 | c :: cs, i => by dsimp only [List.map, dM, hW]; rw [mN e cs (i + 1)]
theorem jN {α : Type} : ∀ (cs : List α) (i : Int), (hW i cs).length = cs.length
 | [], _ => rfl
 | c :: cs, i => by (dsimp only [hW]; simp only [List.length_cons, jN cs])
noncomputable abbrev zX := Int × Str × List Ty
noncomputable abbrev i7 (c : Str × List Ty) (k : Int) : Term := .call c.1 c.2 [] (place 0) k
noncomputable def cS (cs : List (Str × List Ty)) : List eC := (hW 0 cs).map (fun p => ([], i7 p.2 (p.1 + 1))) ++ [([], .ret)]
noncomputable def cF (e : Addr) (P : Params) (cs : List (Str × List Ty)) : BD := ⟨0, e, ar P [], .str (oS "main"), [.dj], cS cs⟩
def r6 (ok : Ok G) {cs : List (Str × List Ty)} (hc : cs.length <= 60) (hR : aj A (n + 4)) (q : ∀ e, Q (bw G.w.params (cF e G.w.params cs)) Γ) : WC G A X (.ref 617) [.lst (cs.map fun c => fA c.1 c.2)] Γ Q := by
 have g1 := pV ok
 have g2 := dP ok
 have s1 := jK ok
 have b1 := kX ok
 tm_at "def1n"
 intro L env A' X' eL fZ
 tm_at "go0"
 tm_at "v"
 (refine W1.aP zX 2 [oS "at", oS "call"] [(oS ".0", .local), (oS "at", .local), (oS "call", .local)] _ ‹_› (by kernel_rfl) (by tm_at "dk") (by tm_at "dk") (by tm_at "lent") (by tm_at "dm") (by tm_at "dk") (by tm_at "m") (by tm_at "dk") ?_)
 tm_at "v"
 refine WC.enumerate fun v pR hw => ?_
 have BL := fun elts k tp => hw (A' := A') elts k tp fZ
 simp only [mN (fun c : Str × List Ty => fA c.1 c.2)] at BL
 refine aL.fn (ts := hW 0 cs) (e := fun p => .tup [.int p.1, fA p.2.1 p.2.2]) (e' := fun p => cO ([], i7 p.2 (p.1 + 1))) (BL _ _ _) (by rw [jN]; exact Nat.le_trans hc (by decide)) (fun X' aF D C acc dC t cp => ?_) ?_
 .tm_at "turn"
  intro I o I2 o2
  tm_at "v"
  refine WE.list ?_
  tm_at "v"
  refine WE.list ?_
  tm_at "v"
  refine WB.add_int ?_
  tm_at "v"
  tm_at "endturn"
 refine .mk (by tm_at "p") (by tm_at "put") ?_
 tm_at "v"
 refine WE.list ?_
 tm_at "v"
 refine WE.list ?_
 tm_at "v"
 refine WE.list ?_
 tm_at "v"
 refine WE.list ?_
 tm_at "v"
 refine WB.ez .lst .lst (by rw [List.length_map, jN, sizeLine_eq]; simp; tm_at "o") ?_
 tm_at "v"
 refine i5 (n := n) ok rfl (short rfl) rfl (by tm_at "r") fun e => Fin.mk (ae := Γ) (by tm_at "w") ?_
 have hq := q e
 (dsimp only [bw, cF, cS] at hq; simp only [List.map_append, List.map_map] at hq)
 exact hq
end
section
noncomputable def vQ (n : Int) : oJ := .const (.i (oS "i32")) (.int n)
noncomputable def r7 (k : Str) : Row := .assign (place 3) (.ref (some (oS "'y")) k (place 1))
noncomputable def dy (n : Int) : List Row := [
 .assign (place 4) (.tuple [.copy (place 1), vQ n]), .print (vQ n), .live 5, .H9,
 .assign (place 5) (.box (.move (place 2))),
 .assign (place 6) (.bU (.bU (some (oS "'z")) (.par (oS "A"))) 0 [.copy (place 3)]),
 .assign (place 7) (.binary (oS "<") [vQ n, .copy (.tup [.int 4, .tup [.tup [.str (oS "field"), .int 1]]])]),
 .assign (place 7) (.unary (oS "!") (.copy (place 7))),
 .assign (place 8) (.array [.copy (place 2), .copy (place 2)]),
 .assign (place 9) (.cast (vQ n) (.i (oS "i64"))),
 .assign (place 4) (.use (.const (.bP (.par (oS "A")) (.i (oS "i32"))) (.int 0)))]
noncomputable def qt : List Str := [oS "shared", oS "mut", oS "two-phase"]
structure hX (rs : List Row) : Prop where
 n : rs.length <= 6
 each : ∀ r ∈ rs, (∃ k ∈ qt, r = r7 k) \/ ∃ n, r ∈ dy n
noncomputable abbrev Ip (a s L : Addr) (R : aa) (kd : Str) (d1 x y : Int) : aa := (a, .list [.int x, .int y]) :: (s, .list ((dy d1).map cD)) :: (L, .ns [(oS "a", some (.tup [.str (oS "param"), .str (oS "A")])), (oS "number", some (.tup [.str (oS "const"), enc (.i (oS "i32")), .int d1])), (oS "lent", some (.tup [.str (oS "assign"), .tup [.int 3, .tup []], .tup [.str (oS "ref"), .str (oS "'y"), .str kd, .tup [.int 1, .tup []]]]))]) :: (L + 1 + 1, .cell (some (.raw (.ref s)))) :: (L + 1, .cell (some (.raw (.ref a)))) :: R
inductive Iq (a s L : Addr) (R : aa) (kd : Str) (d1 : Int) (acc xs : List AV) : aa -> Prop
 | mk {x y : Int} (rs : List Row) (hs : i0 x y) (e : acc = rs.map cD) (h : ∀ r ∈ rs, r ∈ dy d1) (hl : rs.length + xs.length <= 5) : Iq a s L R kd d1 acc xs (Ip a s L R kd d1 x y)
def r8 (ok : Ok G) {a : Addr} {R : aa} {x y : Int} (hs : i0 x y) (p : aC a (.list [.int x, .int y]) Γ R) (hR : aj A (n + 6)) (q : ∀ x' y' rs, i0 x' y' -> hX rs -> Q (.lst (rs.map cD)) ((a, .list [.int x', .int y']) :: R)) : WC G A X (.ref 607) [.raw (.ref a)] Γ Q := by
 have g1 := fV ok
 have g2 := eT ok
 have g3 := mw ok
 have g4 := fb ok
 have s2 := qd ok
 have b1 := jH ok
 tm_at "def1n"
 intro L env A' X' eL fZ
 tm_at "go0"
 tm_at "v"
 refine dw (n := n) ok hs (by tm_at "o") (by tm_at "p") (by tm_at "r") fun x1 y1 d1 AR h0 h1 => ?_
 tm_at "v"
 tm_at "st2"
 tm_at "v"
 refine WE.list ?_
 tm_at "v"
 refine qc (n := n) ok AR (by decide) (by tm_at "p") .lst (by tm_at "r") fun x2 y2 t xM ht => ?_
 obtain ⟨kd, Es, rfl⟩ : ∃ kd ∈ qt, t = .str kd := by
  simp only [List.mem_cons, List.not_mem_nil, or_false] at ht
  rcases ht with rfl | rfl | rfl
  .exact ⟨_, .head _, rfl⟩
  .exact ⟨_, .tail _ (.head _), rfl⟩
  .exact ⟨_, .tail _ (.tail _ (.head _)), rfl⟩
 tm_at "v"
 refine WE.cK ?_
 tm_at "v"
 intro s
 tm_at "v"
 refine WM.append (by tm_at "p") ?_
 tm_at "v"
 refine WC.append (by tm_at "p") (short rfl) ?_
 tm_at "v"
 refine WM.append (by tm_at "p") ?_
 tm_at "v"
 refine i4 (n := n) ok (by tm_at "r") ?_
 tm_at "v"
 refine WC.append (by tm_at "p") (short rfl) ?_
 tm_at "v"
 refine WM.append (by tm_at "p") ?_
 tm_at "v"
 refine WC.append (by tm_at "p") (short rfl) ?_
 tm_at "v"
 refine WM.append (by tm_at "p") ?_
 tm_at "v"
 refine WC.append (by tm_at "p") (short rfl) ?_
 tm_at "v"
 refine WM.append (by tm_at "p") ?_
 tm_at "v"
 refine WC.append (by tm_at "p") (short rfl) ?_
 tm_at "v"
 refine WM.append (by tm_at "p") ?_
 tm_at "v"
 refine WC.append (by tm_at "p") (short rfl) ?_
 tm_at "v"
 refine WM.append (by tm_at "p") ?_
 tm_at "v"
 refine WC.append (by tm_at "p") (short rfl) ?_
 tm_at "v"
 refine WE.weak (ag := Ip a s L R kd d1 x2 y2) (by refine ao.pick (a := a) (by tm_at "p") ?_; refine ao.pick (a := s) .here ?_; tm_at "w") ?_
 refine WE.list ?_
 tm_at "v"
 refine WE.jm 1 [oS "turn"] [(oS ".0", .local), (oS "turn", .local), (oS "_law_one", .globalImplicit), (oS "some", .cell), (oS "source", .cell)] _ ‹_› (by kernel_rfl) (by tm_at "dk") (by tm_at "dk") (by tm_at "lent") (by tm_at "dm") (by tm_at "dk")
  (Iq a s L R kd d1) ?_ ?_ ?_
 .tm_at "v"
  refine dw (n := n) ok xM (by tm_at "o") (by tm_at "p") (by tm_at "r") fun x3 y3 d3 nM LW LX => ?_
  refine WB.add_int ?_
  tm_at "v"
  refine WC.l3 ?_
  have Ir : ∀ k, (cA 0 k).length = k := fun k => by (dsimp only [cA]; simp)
  exact ⟨au.range ‹_› (by decide) (by tm_at "o"), by rw [Ir, sizeLine_eq]; tm_at "o", .mk [] nM rfl (List.forall_mem_nil _) (by rw [Ir]; simp; tm_at "o")⟩
 .intro X3 aF D C acc x rest ae dC hI
  cases hI with | @mk x3 y3 rs nM he D2 hlen => ?_
  dsimp only [Each, ji, blank, List.map, List.cons_append, List.nil_append]
  intro I o
  tm_at "v"
  refine WI.nil ?_
  tm_at "v"
  refine qc (n := n) ok nM (ts := (dy d1).map cD) ⟨by (dsimp only [dy]; simp), by simp [dy]⟩ (by tm_at "p") (.list (by tm_at "p")) (by tm_at "r") fun x4 y4 t D3 ht => ?_
  obtain ⟨r, hr, rfl⟩ := List.mem_map.mp ht
  exact FO (m := [(oS "turn", some x)]) rfl (by dsimp only [List.cons_append, List.nil_append]; tm_at "w") (.mk (rs ++ [r]) D3 (by rw [he, fC]) (jM D2 hr) (by simp at hlen ⊢; tm_at "o"))
 .intro acc ae hI
  cases hI with | @mk x3 y3 rs nM he D2 hlen => ?_
  subst he
  refine WB.ez .lst .lst (by simp at hlen ⊢; rw [sizeLine_eq]; tm_at "o") ?_
  refine Fin.mk (ae := (a, .list [.int x3, .int y3]) :: R) (by tm_at "w") (q x3 y3 (r7 kd :: rs) nM ⟨by simp at hlen ⊢; tm_at "o", fun r hr => ?_⟩)
  rcases List.mem_cons.mp hr with rfl | hr
  .exact .inl ⟨kd, Es, rfl⟩
  .exact .inr ⟨d1, D2 r hr⟩
end
section
noncomputable def oX : List Ty := [.par (oS "B"), .bP (.par (oS "B")) .bool, .ref (some (oS "'x")) true (.par (oS "B"))]
noncomputable def gc (rs : List Row) (sec : Ty) : eC := (rs, .call (oS "g") [sec] [.copy (place 2)] (place 0) 1)
noncomputable def gd : eC := ([], .assert (.const .bool (.raw (.bool true))) [.raw (.bool true), .str (oS "held"), .int 2])
noncomputable def bJ : Int -> List (List Row) -> List eC
 | _, [] => []
 | j, rs :: r => (rs, .drop j (j + 2)) :: bJ (j + 1) r
theorem oY : ∀ (de : List (List Row)) (rs : List Row) (j : Int), bJ j (de ++ [rs]) = bJ j de ++ [(rs, .drop (j + de.length) (j + de.length + 2))]
 | [], rs, j => by simp; rfl
 | r :: de, rs, j => by
  dsimp only [List.cons_append, bJ, List.length_cons]; rw [oY de rs (j + 1)]
  rw [show j + 1 + (de.length : Int) = j + ((de.length + 1 : Nat) : Int) by tm_at "o"]
theorem hY : ∀ (de : List (List Row)) (j : Int), (bJ j de).length = de.length
 | [], _ => rfl
 | _ :: r, j => by (dsimp only [bJ]; simp only [List.length_cons, hY r])
noncomputable def dY (rs : List Row) (sec : Ty) (de : List (List Row)) : List eC := gc rs sec :: gd :: bJ 1 de
noncomputable def mO (p : Int × eC) : eC := match p.2.2 with
 | .drop at' k => (p.2.1, .drop at' (p.1 + 1))
 | tm => (p.2.1, tm)
theorem oZ : ∀ (de : List (List Row)) (j : Int), (hW (j + 1) (bJ j de)).map mO = bJ j de
 | [], _ => rfl
 | rs :: r, j => by
  ((try dsimp only [bJ, hW, mO]); simp only [List.map_cons, oZ r (j + 1)]; try dsimp only [bJ, hW, mO])
  rw [show j + 1 + 1 = j + 2 by tm_at "o"]
def zY (rs : List Row) (sec : Ty) (de : List (List Row)) : (hW 0 (dY rs sec de)).map mO = dY rs sec de := by
 (dsimp only [dY, hW]; simp only [List.map_cons])
 rw [show (0 : Int) + 1 + 1 = 1 + 1 from rfl, oZ]
 rfl
structure bC where
 rs : List Row
 sec : Ty
 de : List (List Row)
 e : Addr
 e2 : Addr
noncomputable def fD (F : bC) : BD := ⟨0, F.e, kc, .str (oS "f"), ef, dY F.rs F.sec F.de ++ [([], .ret)]⟩
noncomputable def gD (F : bC) (P : Params) : BD := ⟨1, F.e2, ar P [], .str (oS "g"), [.dj, .bP (.par (oS "T")) .bool], [([], .drop 1 1), ([], .ret)]⟩
structure nR (F : bC) : Prop where
 rs : hX F.rs
 sec : F.sec ∈ oX
 n : F.de.length = 5
 de : ∀ r ∈ F.de, hX r
def mP {a : Int} {n k : Nat} {x : AV} {rest : List AV} (h : (cA a n).drop k = x :: rest) : k < n /\ x = .int (a + (k : Int)) /\ rest = (cA a n).drop (k + 1) := by
 have hl : (cA a n).length = n := by (dsimp only [cA]; simp)
 have hk : k < n := by
  rcases Nat.lt_or_ge k n with h' | h'
  .exact h'
  .rw [List.drop_eq_nil_of_le (by tm_at "o")] at h; cases h
 rw [List.drop_eq_getElem_cons (by tm_at "o")] at h
 injection h with h1 h2
 exact ⟨hk, by rw [<- h1]; simp [cA], h2.symm⟩
def Seen.vR {L a : Addr} {R : aa} {xs : List AV} {m m' : List (Str × Option AV)} {x : Str} (w : ao Γ ((L, .ns m) :: (a, .list xs) :: R)) (hm : (x, some (.raw (.ref a))) ∈ m) (hp : nZ m x (.lst xs) m') : Seen G Γ ((L, .ns m') :: R) := Seen.local (P := [(a, .list xs)]) kL.list w hm hp
noncomputable abbrev It (a bl L : Addr) (R : aa) (rs : List Row) (sec : Ty) (x y : Int) : aa := (a, .list [.int x, .int y]) :: (bl, .list [cO (gc rs sec), cO gd]) :: (L, .ns [(oS "b", some (.tup [.str (oS "param"), .str (oS "B")])), (oS "second", some (.tup [.str (oS "fn"), .str (oS "g"), .tup [enc sec]])), (oS "blocks", some (.raw (.ref bl))), (oS "goals", none), (oS "place", none), (oS "rows", none), (oS "end", none), (oS "first", none), (oS "kept", none)]) :: (L + 1, .cell (some (.raw (.ref a)))) :: R
inductive Iu (a bl L : Addr) (R : aa) (rs : List Row) (sec : Ty) (acc xs : List AV) : aa -> Prop
 | mk {x y : Int} (de : List (List Row)) (hs : i0 x y) (e : acc = (bJ 1 de).map cO) (h : ∀ r ∈ de, hX r) (hx : xs = (cA 1 5).drop de.length) (hl : de.length <= 5) : Iu a bl L R rs sec acc xs (It a bl L R rs sec x y)
inductive Iv (a gl L : Addr) (R : aa) (rs : List Row) (sec : Ty) (de : List (List Row)) (x y : Int) (dn todo : List (Int × eC)) : aa -> Prop
 | mk {pv rv ev : Option AV} : Iv a gl L R rs sec de x y dn todo ((gl, .list ((dn.map mO).map cO)) :: (L, .ns [(oS "b", some (.tup [.str (oS "param"), .str (oS "B")])), (oS "second", some (.tup [.str (oS "fn"), .str (oS "g"), .tup [enc sec]])), (oS "blocks", some (.lst ((dY rs sec de).map cO))), (oS "goals", some (.raw (.ref gl))), (oS "place", pv), (oS "rows", rv), (oS "end", ev), (oS "first", none), (oS "kept", none)]) :: (a, .list [.int x, .int y]) :: (L + 1, .cell (some (.raw (.ref a)))) :: R)
def uL {i : Int} {rs : List Row} {tm : Term} {dn : List (Int × eC)} {v : AV} (h : cO (mO (i, rs, tm)) = v) : (((dn ++ [(i, rs, tm)]).map mO).map cO) = (dn.map mO).map cO ++ [v] := by rw [fC, fC, h]
def tY (ok : Ok G) {a : Addr} {R : aa} {x y : Int} (hs : i0 x y) (p : aC a (.list [.int x, .int y]) Γ R) (hR : aj A (n + 10)) (q : ∀ x' y' F d, i0 x' y' -> nR F -> Q (.raw (.ref d)) ((d, .bj [(oS "f", bw G.w.params (fD F)), (oS "g", bw G.w.params (gD F G.w.params))]) :: (a, .list [.int x', .int y']) :: R)) : WC G A X (.ref 612) [.raw (.ref a)] Γ Q := by
 have g1 := mw ok
 have g2 := gV ok
 have g3 := rP ok
 have g4 := pV ok
 have g5 := nJ ok
 have g6 := dP ok
 have s1 := jK ok
 have s3 := qe ok
 have b1 := jH ok
 have b2 := kX ok
 tm_at "def1n"
 intro L env A' X' eL fZ
 tm_at "go0"
 tm_at "v"
 refine WE.list ?_
 tm_at "v"
 refine qc (n := n) ok hs (ts := oX.map enc) ⟨by (dsimp only [oX]; simp), by simp [oX]⟩ (by tm_at "p") .lst (by tm_at "r") fun x1 y1 t AR ht => ?_
 k_dflt obtain ⟨sec, G7, rfl⟩ := List.mem_map.mp ht
 tm_at "v"
 refine WE.cK ?_
 tm_at "v"
 refine WE.list ?_
 tm_at "v"
 refine r8 (n := n) ok AR (by tm_at "p") (by tm_at "r") fun x2 y2 rs xM D2 => ?_
 tm_at "v"
 intro bl
 tm_at "v"
 refine WM.append (by tm_at "p") ?_
 tm_at "v"
 refine WE.list ?_
 tm_at "v"
 refine WE.list ?_
 tm_at "v"
 refine WC.append (by tm_at "p") (short rfl) ?_
 tm_at "v"
 refine WE.weak (ag := It a bl L R rs sec x2 y2) (by refine ao.pick (a := a) (by tm_at "p") ?_; refine ao.pick (a := bl) .here ?_; tm_at "w") ?_
 refine WE.jm 1 [oS "at"] [(oS ".0", .local), (oS "at", .local), (oS "_law_rows", .globalImplicit), (oS "source", .cell)] _ ‹_› (by kernel_rfl) (by tm_at "dk") (by tm_at "dk") (by tm_at "lent") (by tm_at "dm") (by tm_at "dk")
  (Iu a bl L R rs sec) ?_ ?_ ?_
 .tm_at "v"
  refine WC.BB ?_
  exact ⟨au.range ‹_› (by decide) (by decide), by dsimp only [cA]; decide, .mk [] xM rfl (List.forall_mem_nil _) rfl (Nat.zero_le _)⟩
 .intro X3 aF D C acc x rest ae dC hI
  cases hI with | @mk x3 y3 de nM he B6 AF hlen => ?_
  obtain ⟨hk, rfl, kH⟩ := mP AF.symm
  dsimp only [Each, ji, blank, List.map, List.cons_append, List.nil_append]
  intro I o
  tm_at "v"
  refine WI.nil ?_
  refine WE.list ?_
  tm_at "v"
  refine r8 (n := n) ok nM (by tm_at "p") (by tm_at "r") fun x4 y4 KW D3 KY => ?_
  tm_at "v"
  refine WB.add_int ?_
  tm_at "v"
  exact FO (m := [(oS "at", some (.int (1 + (de.length : Int))))]) rfl (by dsimp only [List.cons_append, List.nil_append]; tm_at "w") (.mk (de ++ [KW]) D3 (by rw [he, oY, List.map_append]; rfl) (jM B6 KY) (by rw [List.length_append]; exact kH) (by rw [List.length_append]; exact hk))
 .intro acc ae hI
  cases hI with | @mk x3 y3 de nM he B6 AF hlen => ?_
  subst he
  have Iw : de.length = 5 := by
   have := congrArg List.length AF
   rw [List.length_drop] at this
   (dsimp only [cA] at this; simp at this); tm_at "o"
  refine WB.ez (.list (by tm_at "p")) .lst (by rw [List.length_map, hY, sizeLine_eq]; simp; tm_at "o") ?_
  tm_at "v"
  refine WE.cK ?_
  tm_at "v"
  intro gl
  tm_at "v"
  have G8 := zY rs sec de
  have iJ : [cO (gc rs sec), cO gd] ++ (bJ 1 de).map cO = (dY rs sec de).map cO := rfl
  rw [iJ]
  refine W1.weak (ae := (gl, .list []) :: (L, .ns [(oS "b", some (.tup [.str (oS "param"), .str (oS "B")])), (oS "second", some (.tup [.str (oS "fn"), .str (oS "g"), .tup [enc sec]])), (oS "blocks", some (.lst ((dY rs sec de).map cO))), (oS "goals", some (.raw (.ref gl))), (oS "place", none), (oS "rows", none), (oS "end", none), (oS "first", none), (oS "kept", none)]) :: (a, .list [.int x3, .int y3]) :: (L + 1, .cell (some (.raw (.ref a)))) :: R) (by tm_at "w") ?_
  have Fp : (hW 0 (dY rs sec de)).length = 7 := by rw [jN]; simp [dY, hY, Iw]
  refine W1.forL 2 (hW 0 (dY rs sec de)) (fun p => .tup [.int p.1, cO p.2]) (Iv a gl L R rs sec de x3 y3) ?_ ?_ ?_
  .tm_at "v"
   refine WC.enumerate fun v pR hw => ?_
   have BL := fun elts k tp => hw (A' := A') elts k tp fZ
   simp only [mN cO] at BL
   exact ⟨BL _ _ _, .mk⟩
  .intro X3 ae dn p todo e1 hI
   cases hI with | @mk pv rv ev => ?_
   obtain ⟨i, wb, tm⟩ := p
   have yR : dn.length <= 7 := by rw [e1, List.length_append] at Fp; tm_at "o"
   have hz : ((dn.map mO).map cO).length <= sizeLine := by rw [List.length_map, List.length_map]; exact Nat.le_trans yR (by decide)
   tm_at "turn"
   intro I o I2 o2
   cases tm <;> dsimp only [cO, bQ]
   all_goals
    tm_at "v"
    refine WM.append (by tm_at "p") ?_
    tm_at "v"
    refine WE.list ?_
    tm_at "v"
   case drop =>
    refine WB.add_int ?_
    tm_at "v"
    refine WC.append (by tm_at "p") hz ?_
    tm_at "v"
    exact Az (by rw [uL rfl]; dsimp only [mO, cO, bQ, List.cons_append, List.nil_append]; tm_at "w") .mk
   all_goals
    refine WC.append (by tm_at "p") hz ?_
    tm_at "v"
    exact Az (by rw [uL rfl]; dsimp only [mO, cO, bQ, List.cons_append, List.nil_append]; tm_at "w") .mk
  .intro ae hI
   cases hI with | @mk pv rv ev => ?_
   rw [G8]
   tm_at "v"
   refine WM.append (by tm_at "p") ?_
   tm_at "v"
   refine WE.list ?_
   tm_at "v"
   refine WE.list ?_
   tm_at "v"
   refine WC.append (by tm_at "p") (by rw [List.length_map, sizeLine_eq]; simp [dY, hY]; tm_at "o") ?_
   refine WS.seen (Seen.vR (x := (oS "goals")) (ao.pick (a := L) (by tm_at "p") (ao.pick (a := gl) (by tm_at "p") (ao.refl _))) (by tm_at "m") (by tm_at "put")) ?_
   have KZ : (dY rs sec de).map cO ++ [AV.lst [AV.lst [], AV.tup [AV.str (oS "return")]]] = (dY rs sec de ++ [(([], Mine.Term.ret) : eC)]).map cO := by rw [List.map_append]; rfl
   rw [KZ]
   tm_at "v"
   refine tX (n := n) ok (by tm_at "r") ?_
   tm_at "v"
   refine WE.ident (WE.DD ‹_› ⟨_, rfl, fun e => ?_⟩)
   tm_at "v"
   refine tN (n := n) ok rfl (short rfl) rfl rfl (by tm_at "r") ?_
   tm_at "v"
   refine WE.list ?_
   tm_at "v"
   refine WE.DC (by decide) fun d => ?_
   tm_at "v"
   refine WE.list ?_
   tm_at "v"
   refine WE.list ?_
   tm_at "v"
   refine WE.list ?_
   tm_at "v"
   refine WE.list ?_
   tm_at "v"
   refine WE.list ?_
   tm_at "v"
   refine i5 (n := n) ok rfl (short rfl) rfl (by tm_at "r") fun e2 => ?_
   tm_at "v"
   refine ⟨_, by tm_at "p", ?_⟩
   refine Fin.mk (ae := (d, _) :: (a, .list [.int x3, .int y3]) :: R) (ao.pick (a := d) (by tm_at "p") (ao.pick (a := a) (by tm_at "p") (by tm_at "w"))) ?_
   exact q x3 y3 ⟨rs, sec, de, e, e2⟩ d nM ⟨D2, G7, Iw, B6⟩
end
section
def cG (k : Nat) (x : AV) : Prop := ∃ d, x.data = some d /\ d.canLay0 = true /\ d.depth <= k
def cG.mono {k m : Nat} {x : AV} (h : cG k x) (hk : k <= m) : cG m x := (by refine gF fun Z => ?_; obtain ⟨d, e, c, z⟩ := h; exact Z (⟨d, e, c, Nat.le_trans z hk⟩))
def AW {xs : List AV} {k : Nat} (h : ∀ x ∈ xs, cG k x) : ∃ ds, AV.a7 xs = some ds /\ PyData.canLayAll0 ds = true /\ PyData.depthAll ds <= k := by
 induction xs with
 | nil => exact ⟨[], rfl, rfl, Nat.zero_le _⟩
 | cons x xs ih =>
  obtain ⟨d, e, c, z⟩ := h x (.head _)
  k_dflt obtain ⟨ds, e2, c2, z2⟩ := ih fun y hy => h y (.tail _ hy)
  exact ⟨d :: ds, by simp only [AV.a7, e, e2], by simp only [PyData.canLayAll0, c, c2, Bool.and_self], by simp only [PyData.depthAll]; tm_at "o"⟩
def cu {xs : List AV} {k : Nat} (h : ∀ x ∈ xs, cG k x) : cG (k + 1) (.tup xs) := by
 obtain ⟨ds, e, c, z⟩ := AW h
 exact ⟨.tuple ds, by simp only [AV.data, e]; rfl, by simp only [PyData.canLay0]; exact c, by simp only [PyData.depth]; tm_at "o"⟩
def fE {xs : List AV} {k : Nat} (h : ∀ x ∈ xs, cG k x) : cG (k + 1) (.lst xs) := by
 obtain ⟨ds, e, c, z⟩ := AW h
 exact ⟨.list ds, by simp only [AV.data, e]; rfl, by simp only [PyData.canLay0]; exact c, by simp only [PyData.depth]; tm_at "o"⟩
def cH {x : Str} {k : Nat} (h : PyData.strOk x = true) : cG k (.str x) := ⟨.str x, rfl, by simp only [PyData.canLay0]; exact h, Nat.zero_le _⟩
def jO {i : Int} {k : Nat} : cG k (.int i) := ⟨.int i, rfl, rfl, Nat.zero_le _⟩
def ku {b : Bool} {k : Nat} : cG k (.raw (.bool b)) := ⟨.bool b, rfl, rfl, Nat.zero_le _⟩
def fF {k : Nat} : cG k (.raw .none) := ⟨.none, rfl, rfl, Nat.zero_le _⟩
def aO {x : AV} {xs : List AV} {k : Nat} (h : cG k x) (h' : ∀ y ∈ xs, cG k y) : ∀ y ∈ x :: xs, cG k y := fun y hy => by
 rcases List.mem_cons.mp hy with rfl | hy
 .exact h
 .exact h' y hy
def dz {k : Nat} : ∀ y ∈ ([] : List AV), cG k y := List.forall_mem_nil _
def r9 {T : Ty} {k : Nat} (h : fy T = true) (hk : 2 * ht T + 2 <= k) : cG k (enc T) := ⟨_, gY T, ix h, Nat.le_trans (d9 T) hk⟩
def vS {ys : List AV} {k : Nat} (h : ∀ y ∈ ys, cG (k + 1) y) : cG (k + 2) (lu ys) := by
 have d : ∀ j, ∀ y ∈ ys.drop j, cG (k + 1) y := fun j y hy => h y (List.mem_of_mem_drop hy)
 unfold lu
 split
 .exact cu (aO (cH (by tm_at "dk")) (aO fF (d 2)))
 .split
  .exact cu (aO (cH (by tm_at "dk")) (aO (cH (by tm_at "dk")) (aO (cu (aO fF dz)) (d 3))))
  .exact cu h
def se {tab : List (Str × Ty)} {m : Nat} (ht : ∀ n T, gz tab n = some T -> cG m (enc T)) {x : AV} {k : Nat} (h : Wf tab x k) : cG (k + m + 1) (aw tab x) := by
 induction h with
 | none => exact fF
 | bool => exact ku
 | int => exact jO
 | str h => exact cH h
 | par h e => simp only [aw, mF, if_true, e]; exact (ht _ _ e).mono (by tm_at "o")
 | @tup xs k h1 _ _ _ _ ih =>
  simp only [aw, fX h1, eX]
  refine (vS (k := k + m) fun y hy => ?_).mono (by tm_at "o")
  obtain ⟨x, hx, rfl⟩ := List.mem_map.mp hy
  exact ih x hx
set_option tactic.hygienic true in
def yb {k : Nat} {xs : List AV} (h : cG k (.tup xs)) : ∀ x ∈ xs, cG k x := by
 obtain ⟨d, e, c, z⟩ := h
 simp only [AV.data, Option.map_eq_some_iff] at e
 obtain ⟨ds, e, rfl⟩ := e
 simp only [PyData.canLay0] at c
 simp only [PyData.depth] at z
 replace z : PyData.depthAll ds <= k := by tm_at "o"
 induction xs generalizing ds with
 | nil => exact dz
 | cons x xs ih =>
  simp only [AV.a7] at e
  split at e
  .rename_i d es h1 h2
   cases e
   simp only [PyData.canLayAll0, Bool.and_eq_true] at c
   simp only [PyData.depthAll] at z
   exact aO ⟨d, h1, c.1, by tm_at "o"⟩ (ih _ h2 c.2 (by tm_at "o"))
  .cases e
def WB.jP {x : AV} {Γ : aa} {Q : AV -> aa -> Prop} (hR : aj A n) (h : cG 64 x) (q : Q (.raw (.bool false)) Γ) : WB G A X (compareOp .NotEq) Rep x x Γ Q := by
 k_dflt obtain ⟨d, e, c, z⟩ := h
 have hs : SeqAt.shaped d = true := by unfold SeqAt.shaped; rw [c, decide_eq_true z]; rfl
 refine WB.ne_data hR e e hs hs ?_
 rw [PySem.SeqAt.eqv_refl d c]; exact q
structure i8 (tab : List (Str × Ty)) (x y : AV) : Prop where
 wf : Wf tab x 12
 eq : aw tab x = y
noncomputable def dE (tab : List (Str × Ty)) : Term -> AV
 | .call path ts os dst k => .tup [.str (oS "call"), .tup [.str (oS "fn"), .str path, .tup ((ts.map (plainT tab)).map enc)], .tup ((os.map (cQ tab)).map dI), dst, .int k]
 | .drop at' k => .tup [.str (oS "drop"), .tup [.int at', .tup []], .int k]
 | .assert o rest => .tup (.str (oS "assert") :: dI (cQ tab o) :: rest)
 | .ret => .tup [.str (oS "return")]
noncomputable def B7 (tab : List (Str × Ty)) : Term -> AV
 | .call path ts os dst k => .tup [.str (oS "call"), .tup [.str (oS "fn"), .str (cf path (ts.map (plainT tab))), .tup []], .tup ((os.map (cQ tab)).map dI), dst, .int k]
 | tm => dE tab tm
def WS.cut {env : Env} {st : Stmt} {rest : List Stmt} {Γ : aa} {Q : aN -> aa -> Prop} (P : aa -> Prop) (h1 : W1 G A X env st Γ fun f ae => f = .next /\ ∃ wc, ao ae wc /\ P wc) (h2 : ∀ ae, P ae -> WS G A X env rest ae Q) : WS G A X env (st :: rest) Γ Q :=
 WS.cons (.mk fun s S => (h1.go s S).mono fun f ae ⟨e, wc, w, p⟩ => by subst e; exact WS.weak w (h2 wc p))
def WS.to {env : Env} {st : Stmt} {rest : List Stmt} {Γ : aa} {Q : aN -> aa -> Prop} (wc : aa) (h1 : W1 G A X env st Γ fun f ae => f = .next /\ ao ae wc) (h2 : WS G A X env rest wc Q) : WS G A X env (st :: rest) Γ Q :=
 WS.cons (.mk fun s S => (h1.go s S).mono fun f ae z => by cases z.1; exact WS.weak z.2 h2)
structure mQ (tab : List (Str × Ty)) : Prop where
 ok : xI tab
 ht : ∀ n T, gz tab n = some T -> ht T <= 12
noncomputable def AX (tab : List (Str × Ty)) (Ls : List Ty) : Term -> Prop
 | .call path ts os dst k => kZ path (ts.map (plainT tab)) 20 /\ hO (path, ts.map (plainT tab))
 | .drop at' k => 0 <= at' /\ at' < 1000 /\ ∃ T, Ls[at'.toNat]? = some T
 | _ => True
structure dU (P : Params) (tab : List (Str × Ty)) (D : BD) : Prop where
 tb : mQ tab
 nL : D.Ls.length <= 60
 nB : D.bs.length <= 60
 sp : D.sp = kc \/ D.sp = ar P []
 ls : ∀ T ∈ D.Ls, i8 tab (enc T) (enc (plainT tab T)) /\ fy (plainT tab T) = true /\ ht (plainT tab T) <= 20 /\ br (plainT tab T) = aQ (plainT tab T)
 rows : ∀ b ∈ D.bs, b.1.length <= 60 /\ ∀ r ∈ b.1, i8 tab (cD r) (cD (dX tab r))
 ends : ∀ b ∈ D.bs, i8 tab (bQ b.2) (dE tab b.2) /\ AX tab D.Ls b.2
noncomputable def ba (tab : List (Str × Ty)) : List eC -> List Str
 | [] => []
 | b :: bs => (match b.2 with | .call path ts _ _ _ => [cf path (ts.map (plainT tab))] | _ => []) ++ ba tab bs
def nS (tab : List (Str × Ty)) (bs : List eC) (b : eC) : ba tab (bs ++ [b]) = ba tab bs ++ (match b.2 with | .call path ts _ _ _ => [cf path (ts.map (plainT tab))] | _ => []) := by
 induction bs with
 | nil => exact List.append_nil _
 | cons a bs ih => dsimp only [List.cons_append, ba]; rw [ih, List.append_assoc]
def jQ (tab : List (Str × Ty)) (bs : List eC) : (ba tab bs).length <= bs.length := by
 induction bs with
 | nil => exact Nat.le_refl _
 | cons b bs ih => simp only [ba, List.length_append, List.length_cons]; have : (match b.2 with | .call path ts _ _ _ => [cf path (ts.map (plainT tab))] | _ => []).length <= 1 := (by split <;> simp); tm_at "o"
def yc {T : Type} (f g : T -> AV) (l : List T) : mi (l.map f) (l.map g) = l.map fun b => .tup [f b, g b] := by
 induction l with
 | nil => rfl
 | cons a l ih => simp only [List.map_cons, mi, List.zipWith_cons_cons]; exact congrArg _ ih
def zZ {tab : List (Str × Ty)} (h : mQ tab) : ∀ n T, gz tab n = some T -> cG 26 (enc T) := fun n T e => r9 (h.ok n T e) (by have := h.ht n T e; tm_at "o")
def i8.dat {tab : List (Str × Ty)} {x y : AV} (h : i8 tab x y) (ht : mQ tab) : cG 39 y := h.eq ▸ se (zZ ht) h.wf
def vT {tab : List (Str × Ty)} {Ls : List Ty} {at' k : Int} {T : Ty} (h : Ls[at'.toNat]? = some T) (e : br (plainT tab T) = aQ (plainT tab T)) : dT tab (Ls.map (plainT tab)) (.drop at' k) = if br (plainT tab T) = true then .tup [.str (oS "drop"), .tup [.int at', .tup []], .int k] else .tup [.str (oS "goto"), .int k] := by
 rw [e]
 simp only [dT, List.getElem?_map, h, Option.map_some, Option.getD_some]
noncomputable abbrev EO (P : Params) (key : Str) (tab : List (Str × Ty)) (D : BD) (kl L : Addr) (Γ : aa) (v1 v2 v3 v4 v5 : Option AV) (xs : List AV) : aa := (kl, .list xs) :: (L, .ns [(oS "made", some (fg P key tab D)), (oS "drawn", some (bw P D)), (oS "keys", some (.raw (.ref kl))), (oS "rows", some (.lst ((D.Ls.map (plainT tab)).map ee))), (oS "rows_made", v1), (oS "end_made", v2), (oS "rows_drawn", v3), (oS "end", v4), (oS "due", v5)]) :: (L + 1, .cell (some (ar P (bF tab)))) :: Γ
inductive Iy (P : Params) (key : Str) (tab : List (Str × Ty)) (D : BD) (kl L : Addr) (Γ : aa) (dn todo : List eC) : aa -> Prop
 | mk {v1 v2 v3 v4 v5 : Option AV} : Iy P key tab D kl L Γ dn todo (EO P key tab D kl L Γ v1 v2 v3 v4 v5 ((ba tab dn).map .str))
def yd {tab : List (Str × Ty)} {rs : List Row} (ht : mQ tab) (h : ∀ r ∈ rs, i8 tab (cD r) (cD (dX tab r))) : cG 64 (.lst ((rs.map (dX tab)).map cD)) := by
 refine (fE (k := 39) fun y hy => ?_).mono (by tm_at "o")
 rw [List.map_map] at hy
 obtain ⟨r, hr, rfl⟩ := List.mem_map.mp hy
 exact (h r hr).dat ht
def ye {tab : List (Str × Ty)} {Ls : List Ty} {tm : Term} {yP : List Ty} (nT : cG 39 (dE tab tm)) (D4 : AX tab yP tm) : cG 64 (dT tab Ls tm) := by
 cases tm with
 | call path ts os dst k =>
  have h2 := yb nT
  exact (cu (k := 39) (aO (h2 _ (by tm_at "m")) (aO (cu (k := 38) (aO (cH (by tm_at "dk")) (aO (cH (tW D4.2)) (aO (cu (k := 37) dz) dz)))) (aO (h2 _ (by tm_at "m")) (aO (h2 _ (by tm_at "m")) (aO jO dz)))))).mono (by tm_at "o")
 | drop at' k =>
  dsimp only [dT]
  split
  .exact nT.mono (by tm_at "o")
  .exact (cu (k := 39) (aO (cH (by tm_at "dk")) (aO jO dz))).mono (by tm_at "o")
 | _ => exact nT.mono (by tm_at "o")
def yf {P : Params} {tab : List (Str × Ty)} {D : BD} (hD : dU P tab D) : cG 64 (.lst ((D.Ls.map (plainT tab)).map ee)) := by
 refine (fE (k := 43) fun y hy => ?_).mono (by tm_at "o")
 rw [List.map_map] at hy
 obtain ⟨T, hT, rfl⟩ := List.mem_map.mp hy
 have h1 := hD.ls T hT
 exact cu (aO (r9 h1.2.1 (by have := h1.2.2.1; tm_at "o")) (aO ku (aO fF dz)))
def WB.D5 {P : Params} {tab : List (Str × Ty)} {D : BD} (hD : dU P tab D) (e : P = G.w.params) (h : aj A (n + 39)) (q : Q (.raw (.bool false)) Γ) : WB G A X (compareOp .NotEq) Rep (dD D.e D.sp) (dD D.e D.sp) Γ Q := by
 cases e
 rcases hD.sp with e | e <;> rw [e]
 .exact WB.xy h q
 .exact WB.tD h q
def iR (tab : List (Str × Ty)) (bs : List eC) (rs : List Row) (tm : Term) : ba tab (bs ++ [(rs, tm)]) = ba tab bs ++ ba tab [(rs, tm)] := by rw [nS]; exact congrArg (ba tab bs ++ ·) (List.append_nil _).symm
set_option tactic.hygienic true in
def mR (ok : Ok G) {key : Str} {tab : List (Str × Ty)} {D : BD} (hD : dU G.w.params tab D) (hR : aj A (n + 40)) (q : ∀ d, Q (.raw (.ref d)) ((d, .list ((ba tab D.bs).map .str)) :: Γ)) :
  WC G A X (.ref 627) [fg G.w.params key tab D, bw G.w.params D, ar G.w.params (bF tab)] Γ Q := by
 have g1 := fc ok
 have g2 := my ok
 have g3 := gW ok
 have b1 := uy ok
 have b2 := iP ok
 tm_at "def3n"
 intro L env A' X' eL fZ
 tm_at "go0"
 tm_at "v"
 refine WE.cK ?_
 tm_at "v"
 intro kl
 tm_at "v"
 (refine W1.aP Ty 1 [oS "T", oS "is_mut", oS "name"] [(oS ".0", .local), (oS "T", .local), (oS "is_mut", .local), (oS "name", .local), (oS "_law_closed", .globalImplicit), (oS "table", .cell)] _ ‹_› (by kernel_rfl) (by tm_at "dk") (by tm_at "dk") (by tm_at "lent") (by tm_at "dm") (by tm_at "dk") (by tm_at "m") (by tm_at "dk") ?_)
 tm_at "v"
 refine aL.fn (ts := D.Ls) (e := ee) (e' := fun T => ee (plainT tab T)) (au.seq ‹_› rfl) (Nat.le_trans hD.nL (by decide)) (fun X' aF D1 C acc dC t cp => ?_) ?_
 .have h1 := hD.ls t cp
  tm_at "turn"
  intro I o
  tm_at "v"
  refine fY (k := 12) ok hD.tb.ok h1.1.wf (by tm_at "r") ?_
  rw [h1.1.eq]
  tm_at "v"
  tm_at "endturn"
 rw [mC ee (plainT tab)]
 refine .mk (by tm_at "p") (by tm_at "put") ?_
 tm_at "v"
 refine WB.jP ‹_› (yf hD) ?_
 tm_at "v"
 refine WB.wY rfl ?_
 tm_at "v"
 refine WB.D5 hD rfl ‹_› ?_
 tm_at "v"
 refine W1.weak (ae := EO G.w.params key tab D kl L Γ none none none none none []) (by tm_at "w") ?_
 refine W1.forL 5 D.bs (fun b => .tup [r4 tab (D.Ls.map (plainT tab)) b, cO b]) (Iy G.w.params key tab D kl L Γ) ?_ ?_ ?_
 .tm_at "v"
  refine WC.zip rfl rfl fun v wc hz => ?_
  exact ⟨yc (r4 tab (D.Ls.map (plainT tab))) cO D.bs ▸ au.zip ‹_› (by rw [List.length_map, List.length_map]) hz, .mk⟩
 .intro X3 ae dn b todo e1 hI
  cases hI with | @mk v1 v2 v3 v4 v5 => ?_
  have hb : b ∈ D.bs := by rw [e1]; exact List.mem_append_right _ (.head _)
  have B8 := hD.rows b hb
  have rB := (hD.ends b hb).1
  have D4 := (hD.ends b hb).2
  have AU : (ba tab dn).length <= 60 := Nat.le_trans (jQ tab dn) (Nat.le_trans (by rw [e1, List.length_append]; exact Nat.le_add_right _ _) hD.nB)
  tm_at "turn"
  intro I o I2 o2 I3 o3 I4 o4 I5 o5
  tm_at "v"
  refine fY (k := 12) ok hD.tb.ok rB.wf (by tm_at "r") ?_
  rw [rB.eq]
  tm_at "ev"
  obtain ⟨rs, tm⟩ := b
  have AY := ye (Ls := D.Ls.map (plainT tab)) (rB.dat hD.tb) D4
  generalize Iz : dT tab (D.Ls.map (plainT tab)) tm = dm at AY
  refine WS.to ((I, .obj o) :: (I2, .obj o2) :: (I3, .obj o3) :: (I4, .obj o4) :: (I5, .obj o5) :: EO G.w.params key tab D kl L Γ (some (.lst ((rs.map (dX tab)).map cD))) (some dm) (some (.lst (rs.map cD))) (some (bQ tm)) (some (B7 tab tm)) ((ba tab (dn ++ [(rs, tm)])).map .str)) ?_ ?_
  .cases tm <;> dsimp only [bQ, dE, B7]
   case call path ts os dst k =>
    tm_at "v"
    refine WM.append (by tm_at "p") ?_
    tm_at "v"
    refine p9 ok path (ts.map (plainT tab)) (m := 26) D4.1 (by tm_at "o") (by tm_at "r") ?_
    tm_at "v"
    refine WC.append (by tm_at "p") (by rw [List.length_map, sizeLine_eq]; tm_at "o") ?_
    tm_at "v"
    refine WB.item_last (by tm_at "p") (by rw [List.length_map]; tm_at "o") ?_
    tm_at "v"
    refine ⟨2, rfl, by tm_at "o", by simp, gZ (by simp), ?_⟩
    dsimp only [List.drop]
    refine WB.jo (by simp) (by simp) (gZ (by simp)) ?_
    dsimp only [List.cons_append, List.nil_append]
    tm_at "v"
    exact ⟨rfl, by rw [iR, List.map_append, show (ba tab [(rs, Term.call path ts os dst k)]).map AV.str = [.str (cf path (ts.map (plainT tab)))] from rfl]; tm_at "w"⟩
   all_goals
    tm_at "v"
    exact ⟨rfl, by rw [iR, show ba tab [(rs, _)] = [] from rfl, List.append_nil]; tm_at "w"⟩
  refine WS.to ((I, .obj o) :: (I2, .obj o2) :: (I3, .obj o3) :: (I4, .obj o4) :: (I5, .obj o5) :: EO G.w.params key tab D kl L Γ (some (.lst ((rs.map (dX tab)).map cD))) (some dm) (some (.lst (rs.map cD))) (some (bQ tm)) (some dm) ((ba tab (dn ++ [(rs, tm)])).map .str)) ?_ ?_
  .cases tm <;> dsimp only [bQ, B7, dE]
   case drop =>
    k_dflt obtain ⟨h0, h1, T, hT⟩ := D4
    have G9 := hD.ls T (List.mem_of_getElem? hT)
    tm_at "v"
    refine WB.ij h0 (by tm_at "o") (by rw [List.getElem?_map, List.getElem?_map, hT]; rfl) ?_
    tm_at "v"
    refine rV ok (plainT tab T) G9.2.1 (by have := G9.2.2.1; tm_at "r") ?_
    have EP := Iz.symm.trans (vT hT G9.2.2.2)
    cases hb : br (plainT tab T)
    .rw [hb, if_neg Bool.false_ne_true] at EP
     tm_at "v"
     exact ⟨rfl, by rw [EP]; tm_at "w"⟩
    .rw [hb, if_pos rfl] at EP
     tm_at "v"
     exact ⟨rfl, by rw [EP]; tm_at "w"⟩
   all_goals
    tm_at "v"
    exact ⟨rfl, by rw [<- Iz]; dsimp only [dT]; tm_at "w"⟩
  tm_at "v"
  (refine WE.aP Row 1 [oS "row"] [(oS ".0", .local), (oS "row", .local), (oS "_law_closed", .globalImplicit), (oS "table", .cell)] _ ‹_› (by kernel_rfl) (by tm_at "dk") (by tm_at "dk") (by tm_at "lent") (by tm_at "dm") (by tm_at "dk") ?_)
  tm_at "v"
  refine aL.fn (ts := rs) (e := cD) (e' := fun r => cD (dX tab r)) (au.seq ‹_› rfl) (Nat.le_trans B8.1 (by decide)) (fun X' aF D1 C acc dC t cp => ?_) ?_
  .have h1 := B8.2 t cp
   tm_at "turn"
   intro I o
   tm_at "v"
   refine fY (k := 12) ok hD.tb.ok h1.wf (by tm_at "r") ?_
   rw [h1.eq]
   tm_at "endturn"
  rw [mC cD (dX tab)]
  refine WB.jP ‹_› (yd hD.tb B8.2) ?_
  tm_at "v"
  refine WB.jP ‹_› AY ?_
  tm_at "v"
  exact Az (by tm_at "turn"; tm_at "w") .mk
 .intro ae hI
  cases hI with | @mk v1 v2 v3 v4 v5 => ?_
  have hl : ∀ f : eC -> AV, (D.bs.map f).length <= sizeLine := fun f => by rw [List.length_map]; exact Nat.le_trans hD.nB (by decide)
  tm_at "v"
  refine WC.cn rfl (hl _) ?_
  tm_at "v"
  refine WC.cn rfl (hl _) ?_
  tm_at "v"
  exact Fin.mk (by tm_at "w") (q kl)
def ly (ok : Ok G) {key : Str} {tab : List (Str × Ty)} {D : BD} (hD : dU G.w.params tab D) (hR : aj A (n + 40)) (q : Q (.lst ((ba tab D.bs).map .str)) Γ) :
  WC G A X (.ref 627) [fg G.w.params key tab D, bw G.w.params D, ar G.w.params (bF tab)] Γ Q :=
 WC.fin (mR ok hD hR fun d => Fin.d8 (.refl _) kL.list q)
end
section
noncomputable def Cl : Ty -> Prop
 | .i n => n = (oS "i32")
 | .bool => True
 | .par _ => False
 | .ref r _ t => r = none /\ Cl t
 | .box t => Cl t
 | .arr t n => (0 <= n /\ n < 10) /\ Cl t
 | .dj => True
 | .dq t => Cl t
 | .bP t u => Cl t /\ Cl u
 | .bU r t => r = none /\ Cl t
noncomputable def codes (s : Str) : List Nat := s.cps.toList
def aH (a b : Str) : codes (a ++ b) = codes a ++ codes b := by show (a.cps ++ b.cps).toList = _; rw [Array.toList_append]; rfl
noncomputable def txt (T : Ty) : List Nat := codes (aq T)
def AZ : txt (.i (oS "i32")) = [105, 51, 50] := by decide +kernel
def sf : txt .bool = [98, 111, 111, 108] := by decide +kernel
def qu (r t) : txt (.ref r true t) = 38 :: 109 :: 117 :: 116 :: 32 :: txt t := by
 show codes ((oS "&mut ") ++ aq t) = _
 rw [aH]; rfl
def qv (r t) : txt (.ref r false t) = 38 :: txt t := by
 show codes ((oS "&") ++ aq t) = _
 rw [aH]; rfl
def qw (t) : txt (.box t) = 66 :: 111 :: 120 :: 60 :: (txt t ++ [62]) := by
 show codes ((oS "Box<") ++ aq t ++ (oS ">")) = _
 rw [aH, aH]; rfl
def qx (r t) : txt (.bU r t) = 71 :: 60 :: (txt t ++ [62]) := by
 show codes ((oS "G<") ++ aq t ++ (oS ">")) = _
 rw [aH, aH]; rfl
def digit : ∀ {n : Int}, 0 <= n /\ n < 10 -> codes (oS (toString n)) = [48 + n.toNat] := by
 intro n h
 obtain ⟨k, rfl⟩ := Int.eq_ofNat_of_zero_le h.1
 exact (show ∀ k : _root_.Fin 10, codes (oS (toString (k.val : Int))) = [48 + (k.val : Int).toNat] by decide+kernel) ⟨k, Int.ofNat_lt.mp h.2⟩
def qy {t n} (h : 0 <= n /\ n < 10) : txt (.arr t n) = 91 :: (txt t ++ [59, 32, 48 + n.toNat, 93]) := by
 show codes ((oS "[") ++ aq t ++ (oS "; ") ++ oS (toString n) ++ (oS "]")) = _
 rw [aH, aH, aH, aH, digit h]
 have h1 : codes (oS "[") = [91] := by decide +kernel
 have h2 : codes (oS "; ") = [59, 32] := by decide +kernel
 have h3 : codes (oS "]") = [93] := by decide +kernel
 refine h1 ▸ h2 ▸ h3 ▸ ?_
 (dsimp only [txt]; simp)
def uO : txt .dj = [40, 41] := by decide +kernel
def qz (t) : txt (.dq t) = 40 :: (txt t ++ [44, 41]) := by
 show codes (oS "(" ++ aq t ++ oS ",)") = _
 rw [aH, aH]; rfl
def qA (t u) : txt (.bP t u) = 40 :: (txt t ++ 44 :: 32 :: (txt u ++ [41])) := by
 show codes (oS "(" ++ aq t ++ oS ", " ++ aq u ++ oS ")") = _
 rw [aH, aH, aH, aH]
 have h1 : codes (oS "(") = [40] := by decide +kernel
 have h2 : codes (oS ", ") = [44, 32] := by decide +kernel
 have h3 : codes (oS ")") = [41] := by decide +kernel
 refine h1 ▸ h2 ▸ h3 ▸ ?_
 (dsimp only [txt]; simp)
def mS : ∀ {T : Ty}, Cl T -> ∃ c r, txt T = c :: r /\ c ≠ 109 /\ c ≠ 41
 | .i n, h => by subst h; exact ⟨_, _, AZ, by decide, by decide⟩
 | .bool, _ => ⟨_, _, sf, by decide, by decide⟩
 | .ref r true t, _ => ⟨_, _, qu .., by decide, by decide⟩
 | .ref r false t, _ => ⟨_, _, qv .., by decide, by decide⟩
 | .box t, _ => ⟨_, _, qw .., by decide, by decide⟩
 | .arr t n, h => ⟨_, _, qy h.1, by decide, by decide⟩
 | .dj, _ => ⟨_, _, uO, by decide, by decide⟩
 | .dq t, _ => ⟨_, _, qz .., by decide, by decide⟩
 | .bP t u, _ => ⟨_, _, qA .., by decide, by decide⟩
 | .bU r t, _ => ⟨_, _, qx .., by decide, by decide⟩
noncomputable def qB : Nat -> List Nat -> Option (Ty × List Nat)
 | 0, _ => none
 | k + 1, l =>
  let c := l.headD 0
  let r := l.drop 1
  bif c == 105 then some (.i (oS "i32"), r.drop 2)
  else bif c == 98 then some (.bool, r.drop 3)
  else bif c == 66 then (qB k (r.drop 3)).map fun p => (.box p.1, p.2.drop 1)
  else bif c == 71 then (qB k (r.drop 1)).map fun p => (.bU none p.1, p.2.drop 1)
  else bif c == 91 then (qB k r).map fun p => (.arr p.1 ((p.2.getD 2 0 - 48 : Nat) : Int), p.2.drop 4)
  else bif c == 38 then (bif r.headD 0 == 109 then (qB k (r.drop 4)).map fun p => (.ref none true p.1, p.2) else (qB k r).map fun p => (.ref none false p.1, p.2))
  else bif r.headD 0 == 41 then some (.dj, r.drop 1)
  else (qB k r).bind fun p => bif p.2.getD 1 0 == 41 then some (.dq p.1, p.2.drop 2) else (qB k (p.2.drop 2)).map fun q => (.bP p.1 q.1, q.2.drop 1)
def uP : ∀ (T : Ty), Cl T -> ∀ (k : Nat) (x : List Nat), ht T <= k -> qB (k + 1) (txt T ++ x) = some (T, x) := by
 intro T; induction T with
 | i n => intro h k x _; subst h; rw [AZ]; rfl
 | bool => intro _ k x _; rw [sf]; rfl
 | par _ => intro h _ _ _; exact h.elim
 | dj => intro _ k x _; rw [uO]; rfl
 | ref r m t ih =>
  intro h k x hk
  obtain ⟨e, h⟩ := h
  obtain _ | k := k
  .exact absurd hk (Nat.not_succ_le_zero _)
  induction m with
  | true =>
   subst e; rw [qu]
   show (qB (k + 1) (txt t ++ x)).map _ = _
   rw [ih h k x (Nat.le_of_succ_le_succ hk)]; rfl
  | false =>
   subst e
   k_dflt obtain ⟨c, w, hw, n1, _⟩ := mS h
   have z := ih h k x (Nat.le_of_succ_le_succ hk)
   rw [qv, hw] at *
   show (bif c == 109 then _ else (qB (k + 1) (c :: w ++ x)).map _) = _
   rw [beq_eq_false_iff_ne.mpr n1, z]; rfl
 | box t ih =>
  intro h k x hk
  obtain _ | k := k
  .exact absurd hk (Nat.not_succ_le_zero _)
  rw [qw]
  show (qB (k + 1) ((txt t ++ [62]) ++ x)).map _ = _
  rw [List.append_assoc, ih h k _ (Nat.le_of_succ_le_succ hk)]; rfl
 | bU r t ih =>
  intro h k x hk
  obtain ⟨e, h⟩ := h
  obtain _ | k := k
  .exact absurd hk (Nat.not_succ_le_zero _)
  subst e; rw [qx]
  show (qB (k + 1) ((txt t ++ [62]) ++ x)).map _ = _
  rw [List.append_assoc, ih h k _ (Nat.le_of_succ_le_succ hk)]; rfl
 | arr t n ih =>
  intro h k x hk
  obtain ⟨hn, h⟩ := h
  obtain _ | k := k
  .exact absurd hk (Nat.not_succ_le_zero _)
  rw [qy hn]
  show (qB (k + 1) ((txt t ++ [59, 32, 48 + n.toNat, 93]) ++ x)).map _ = _
  rw [List.append_assoc, ih h k _ (Nat.le_of_succ_le_succ hk)]
  show some (Ty.arr t ((48 + n.toNat - 48 : Nat) : Int), x) = _
  rw [Nat.add_sub_cancel_left, Int.toNat_of_nonneg hn.1]
 | dq t ih =>
  intro h k x hk
  obtain _ | k := k
  .exact absurd hk (Nat.not_succ_le_zero _)
  k_dflt obtain ⟨c, w, hw, _, n2⟩ := mS (T := t) h
  have z := ih h k (44 :: 41 :: x) (Nat.le_of_succ_le_succ hk)
  rw [qz]
  rw [hw] at *
  show (bif c == 41 then _ else (qB (k + 1) ((c :: w ++ [44, 41]) ++ x)).bind _) = _
  rw [beq_eq_false_iff_ne.mpr n2, List.append_assoc]
  show (qB (k + 1) ((c :: w) ++ 44 :: 41 :: x)).bind _ = _
  rw [z]; rfl
 | bP t u ih K0 =>
  intro h k x hk
  obtain ⟨h, h'⟩ := h
  obtain _ | k := k
  .exact absurd hk (Nat.not_succ_le_zero _)
  k_dflt obtain ⟨c, w, hw, _, n2⟩ := mS (T := t) h
  have hm := Nat.max_le.mp (Nat.le_of_succ_le_succ hk)
  have z := ih h k (44 :: 32 :: (txt u ++ 41 :: x)) hm.1
  have z' := K0 h' k (41 :: x) hm.2
  rw [qA]
  rw [hw] at *
  show (bif c == 41 then _ else (qB (k + 1) ((c :: w ++ 44 :: 32 :: (txt u ++ [41])) ++ x)).bind _) = _
  rw [beq_eq_false_iff_ne.mpr n2, List.append_assoc]
  show (qB (k + 1) ((c :: w) ++ 44 :: 32 :: ((txt u ++ [41]) ++ x))).bind _ = _
  rw [List.append_assoc]
  show (qB (k + 1) ((c :: w) ++ 44 :: 32 :: (txt u ++ 41 :: x))).bind _ = _
  rw [z]
  show (qB (k + 1) (txt u ++ 41 :: x)).map _ = _
  rw [z']; rfl
def lH {T U : Ty} {x y : List Nat} (h : Cl T) (k : Cl U) (e : txt T ++ x = txt U ++ y) : T = U /\ x = y := by
 have a := uP T h (max (ht T) (ht U)) x (Nat.le_max_left _ _)
 replace a := (uP U k (max (ht T) (ht U)) y (Nat.le_max_right _ _)) ▸ e ▸ a
 cases a; exact ⟨rfl, rfl⟩
noncomputable abbrev eN := Str × List Ty
noncomputable abbrev cx (p : eN) : Str := cf p.1 p.2
inductive o8 : eN -> Prop
 | main : o8 (oS "main", [])
 | f {t u} : Cl t -> Cl u -> o8 (oS "f", [t, u])
 | g {t} : Cl t -> o8 (oS "g", [t])
def uQ (t u : Ty) : codes (cx (oS "f", [t, u])) = 102 :: 60 :: (txt t ++ 44 :: 32 :: (txt u ++ [62])) := by
 show codes ((oS "f") ++ (oS "<") ++ Str.join (oS ", ") [aq t, aq u] ++ (oS ">")) = _
 have e : Str.join (oS ", ") [aq t, aq u] = aq t ++ (oS ", ") ++ aq u := rfl
 rw [e, aH, aH, aH, aH]
 have h1 : codes (oS "f") = [102] := by decide +kernel
 have h2 : codes (oS ", ") = [44, 32] := by decide +kernel
 have h3 : codes (oS ">") = [62] := by decide +kernel
 have h4 : codes (oS "<") = [60] := by decide +kernel
 rw [aH, h1, h2, h3, h4]
 (dsimp only [txt]; simp)
def uR (t : Ty) : codes (cx (oS "g", [t])) = 103 :: 60 :: (txt t ++ [62]) := by
 show codes ((oS "g") ++ (oS "<") ++ Str.join (oS ", ") [aq t] ++ (oS ">")) = _
 have e : Str.join (oS ", ") [aq t] = aq t := rfl
 rw [e, aH, aH, aH]
 have h1 : codes (oS "g") = [103] := by decide +kernel
 have h3 : codes (oS ">") = [62] := by decide +kernel
 have h4 : codes (oS "<") = [60] := by decide +kernel
 refine h1 ▸ h3 ▸ h4 ▸ ?_
 (dsimp only [txt]; simp)
def mT : codes (cx (oS "main", [])) = [109, 97, 105, 110] := by decide +kernel
def z0 {p q : eN} (hp : o8 p) (hq : o8 q) (e : cx p = cx q) : p = q := by
 have e := congrArg codes e
 induction hp with
 | main =>
  rw [mT] at e
  induction hq with
  | main => rfl
  | f => rw [uQ] at e; simp at e
  | g => rw [uR] at e; simp at e
 | @f t u ht hu =>
  rw [uQ] at e
  induction hq with
  | main => rw [mT] at e; simp at e
  | f h1 h2 =>
   rw [uQ] at e
   simp only [List.cons.injEq, true_and] at e
   obtain ⟨rfl, e2⟩ := lH ht h1 e
   simp only [List.cons.injEq, true_and] at e2
   obtain ⟨rfl, _⟩ := lH hu h2 e2
   rfl
  | g => rw [uR] at e; simp at e
 | @g t ht =>
  rw [uR] at e
  induction hq with
  | main => rw [mT] at e; simp at e
  | f => rw [uQ] at e; simp at e
  | g h1 =>
   rw [uR] at e
   simp only [List.cons.injEq, true_and] at e
   obtain ⟨rfl, _⟩ := lH ht h1 e
   rfl
end
section
def Wf.mono {tab : List (Str × Ty)} {x : AV} {k : Nat} (h : Wf tab x k) : ∀ {m}, k <= m -> Wf tab x m := by
 induction h with
 | none => intros; exact .none
 | bool => intros; exact .bool
 | int => intros; exact .int
 | str h => intros; exact .str h
 | par h e =>
  intro m hm
  obtain ⟨m, rfl⟩ : ∃ j, m = j + 1 := ⟨m - 1, by tm_at "o"⟩
  exact .par h e
 | tup h1 h2 h3 h4 _ ih =>
  intro m hm
  obtain ⟨m, rfl⟩ : ∃ j, m = j + 1 := ⟨m - 1, by tm_at "o"⟩
  exact .tup h1 h2 h3 h4 fun x hx => ih x hx (by tm_at "o")
def Cz (tab : List (Str × Ty)) (k : Nat) (x y : AV) : Prop := Wf tab x k /\ aw tab x = y
def A0 (tab : List (Str × Ty)) (k : Nat) (xs ys : List AV) : Prop := (∀ x ∈ xs, Wf tab x k) /\ xs.map (aw tab) = ys
variable {tab : List (Str × Ty)} {k : Nat} {x y : AV} {xs ys : List AV}
theorem Cz.mono {m : Nat} (h : Cz tab k x y) (hk : k <= m) : Cz tab m x y := ⟨h.1.mono hk, h.2⟩
def bO {s : Str} (h : PyData.strOk s = true) : Cz tab k (.str s) (.str s) := ⟨.str h, by dsimp only [aw]⟩
def eE {i : Int} : Cz tab k (.int i) (.int i) := ⟨.int, by dsimp only [aw]⟩
def qC {b : Bool} : Cz tab k (.raw (.bool b)) (.raw (.bool b)) := ⟨.bool, by dsimp only [aw]⟩
def ER : Cz tab k (.raw .none) (.raw .none) := ⟨.none, by dsimp only [aw]⟩
def aZ : A0 tab k [] [] := ⟨List.forall_mem_nil _, rfl⟩
def ak (h : Cz tab k x y) (h' : A0 tab k xs ys) : A0 tab k (x :: xs) (y :: ys) := ⟨fun z hz => by
 rcases List.mem_cons.mp hz with rfl | hz
 .exact h.1
 .exact h'.1 z hz, by rw [List.map_cons, h.2, h'.2]⟩
def B9 {T : Type} {f g : T -> AV} {l : List T} (h : ∀ t ∈ l, Cz tab k (f t) (g t)) : A0 tab k (l.map f) (l.map g) := ⟨fun z hz => by
 obtain ⟨t, ht, rfl⟩ := List.mem_map.mp hz
 exact (h t ht).1, by
 rw [List.map_map]
 exact List.map_congr_left fun t ht => (h t ht).2⟩
def hZ (h1 : b9 (oS "param") xs = false) : aw tab (.tup xs) = lu (xs.map (aw tab)) := by
 (dsimp only [aw]; simp only [fX h1, eX])
noncomputable def tZ (xs : List AV) : Bool := !b9 (oS "param") xs && !b9 (oS "ref") xs && !dh (oS "adt") (oS "G") xs
def a8 (h : tZ xs = true) (hl : xs.length <= 60) (hs : A0 tab k xs ys) : Cz tab (k + 1) (.tup xs) (.tup ys) := by
 (dsimp only [tZ] at h; simp only [Bool.and_eq_true, Bool.not_eq_true'] at h)
 obtain ⟨⟨a1, a2⟩, a3⟩ := h
 refine ⟨.tup a1 hl (fun q => by rw [a2] at q; cases q) (fun q => by rw [a3] at q; cases q) hs.1, ?_⟩
 rw [hZ a1, hs.2]
 unfold lu
 have b2 : b9 (oS "ref") ys = false := by
  cases hb : b9 (oS "ref") ys with
  | false => rfl
  | true => rw [<- hs.2] at hb; rw [k9 hb] at a2; cases a2
 have b3 : dh (oS "adt") (oS "G") ys = false := by
  cases hb : dh (oS "adt") (oS "G") ys with
  | false => rfl
  | true => rw [<- hs.2] at hb; rw [jJ hb] at a3; cases a3
 rw [b2, b3]; rfl
def Ca (hx : Wf tab x k) (hn : 1 <= xs.length) (hl : xs.length <= 50) (hs : A0 tab k xs ys) : Cz tab (k + 1) (.tup (.str (oS "ref") :: x :: xs)) (.tup (.str (oS "ref") :: .raw .none :: ys)) := by
 have hr : PyData.strOk (oS "ref") = true := by decide +kernel
 refine ⟨.tup (by rfl) (by simp only [List.length_cons]; tm_at "o") (fun _ => by simp only [List.length_cons]; tm_at "o") (fun q => ?_) ?_, ?_⟩
 .exact absurd (show iW (oS "adt") (.str (oS "ref")) = true from (Bool.and_eq_true_iff.mp (show (iW (oS "adt") (.str (oS "ref")) && iW (oS "G") x) = true from q)).1) (by tm_at "dk")
 .intro z hz
  rcases List.mem_cons.mp hz with rfl | hz
  .exact .str hr
  .rcases List.mem_cons.mp hz with rfl | hz
   .exact hx
   .exact hs.1 z hz
 .rw [hZ (by rfl), List.map_cons, List.map_cons, hs.2]
  unfold lu
  rw [show b9 (oS "ref") (aw tab (.str (oS "ref")) :: aw tab x :: ys) = true from by dsimp only [aw, b9, iW]; simp]
  rfl
def Cb (hx : Wf tab x k) (hn : 1 <= xs.length) (hl : xs.length <= 50) (hs : A0 tab k xs ys) : Cz tab (k + 1) (.tup (.str (oS "adt") :: .str (oS "G") :: x :: xs)) (.tup (.str (oS "adt") :: .str (oS "G") :: .tup [.raw .none] :: ys)) := by
 refine ⟨.tup (by rfl) (by simp only [List.length_cons]; tm_at "o") (fun q => ?_) (fun _ => by simp only [List.length_cons]; tm_at "o") ?_, ?_⟩
 .exact absurd (show iW (oS "ref") (.str (oS "adt")) = true from q) (by tm_at "dk")
 .intro z hz
  rcases List.mem_cons.mp hz with rfl | hz
  .exact .str (by tm_at "dk")
  .rcases List.mem_cons.mp hz with rfl | hz
   .exact .str (by tm_at "dk")
   .rcases List.mem_cons.mp hz with rfl | hz
    .exact hx
    .exact hs.1 z hz
 .rw [hZ (by rfl), List.map_cons, List.map_cons, List.map_cons, hs.2]
  unfold lu
  rw [show b9 (oS "ref") (aw tab (.str (oS "adt")) :: aw tab (.str (oS "G")) :: aw tab x :: ys) = false from by dsimp only [aw, b9, iW]; decide +kernel,
   show dh (oS "adt") (oS "G") (aw tab (.str (oS "adt")) :: aw tab (.str (oS "G")) :: aw tab x :: ys) = true from by (dsimp only [aw, dh, iW]; simp)]
  rfl
noncomputable def sh : Option Str -> Prop
 | none => True
 | some r => PyData.strOk r = true /\ r ≠ (oS "param") /\ r ≠ (oS "ref")
def Cc : ∀ {r : Option Str}, sh r -> Wf tab (eM r) k
 | none, _ => .none
 | some _, h => .str h.1
def z9 {r : Option Str} (h : sh r) : Wf tab (.tup [eM r]) (k + 1) := by
 cases r with
 | none => exact .tup rfl (by simp) (fun q => by cases q) (fun q => by cases q) fun z hz => by cases List.mem_singleton.mp hz; exact .none
 | some r =>
  refine .tup ?_ (by simp) (fun q => ?_) (fun q => by cases q) fun z hz => by cases List.mem_singleton.mp hz; exact .str h.1
  .dsimp only [eM, b9, iW]; exact decide_eq_false h.2.1
  ·(dsimp only [eM, b9, iW] at q; simp only [decide_eq_true_eq] at q); exact absurd q h.2.2
noncomputable def gB (tab : List (Str × Ty)) : Ty -> Prop
 | .i n => PyData.strOk n = true
 | .bool => True
 | .par n => PyData.strOk n = true /\ ∃ U, gz tab n = some U /\ bB U = U
 | .ref r _ t => sh r /\ gB tab t
 | .box t => gB tab t
 | .arr t _ => gB tab t
 | .dj => True
 | .dq t => gB tab t
 | .bP t u => gB tab t /\ gB tab u
 | .bU r t => sh r /\ gB tab t
def D6 {k : Nat} (h : 2 <= k) : ∃ j, k = j + 2 := ⟨k - 2, (Nat.sub_add_cancel h).symm⟩
def up1 {k : Nat} (h : 2 <= k) : ∃ j, k = j + 1 := (D6 h).imp' (· + 1) fun _ e => e
def eF : ∀ {T : Ty} {k : Nat}, gB tab T -> 2 * ht T + 2 <= k -> Cz tab k (enc T) (enc (plainT tab T)) := by
 intro T
 induction T with
 | i n =>
  intro k h hk
  obtain ⟨k, rfl⟩ := up1 (Nat.le_trans (Nat.le_add_left 2 _) hk)
  exact a8 (by rfl) (by simp) (ak (bO (by tm_at "dk")) (ak (bO h) aZ))
 | bool =>
  intro k h hk
  obtain ⟨k, rfl⟩ := up1 (Nat.le_trans (Nat.le_add_left 2 _) hk)
  exact a8 (by rfl) (by simp) (ak (bO (by tm_at "dk")) aZ)
 | par n =>
  intro k h hk
  obtain ⟨k, rfl⟩ := up1 (Nat.le_trans (Nat.le_add_left 2 _) hk)
  obtain ⟨h, U, hU, he⟩ := h
  refine ⟨.par h hU, ?_⟩
  have e2 : plainT tab (.par n) = U := by
   show bB ((gz tab n).getD (.par n)) = U
   rw [hU]; exact he
  rw [e2]
  (dsimp only [enc, aw, mF]; simp only [if_true, hU])
 | ref r m t ih =>
  intro k h hk
  dsimp only [ht] at hk
  obtain ⟨k, rfl⟩ := up1 (Nat.le_trans (Nat.le_add_left 2 _) hk)
  exact Ca (Cc h.1) (by simp) (by simp) (ak qC (ak (ih h.2 (by tm_at "o")) aZ))
 | box t ih =>
  intro k h hk
  dsimp only [ht] at hk
  obtain ⟨k, rfl⟩ := up1 (Nat.le_trans (Nat.le_add_left 2 _) hk)
  exact a8 (by cases t <;> rfl) (by simp) (ak (bO (by tm_at "dk")) (ak (ih h (by tm_at "o")) aZ))
 | arr t n ih =>
  intro k h hk
  dsimp only [ht] at hk
  obtain ⟨k, rfl⟩ := up1 (Nat.le_trans (Nat.le_add_left 2 _) hk)
  exact a8 (by cases t <;> rfl) (by simp) (ak (bO (by tm_at "dk")) (ak (ih h (by tm_at "o")) (ak eE aZ)))
 | dj =>
  intro k h hk
  obtain ⟨k, rfl⟩ := D6 (Nat.le_trans (Nat.le_add_left 2 _) hk)
  exact a8 (by rfl) (by simp) (ak (bO (by tm_at "dk")) (ak (a8 rfl (by simp) aZ) aZ))
 | dq t ih =>
  intro k h hk
  dsimp only [ht] at hk
  obtain ⟨k, rfl⟩ := D6 (Nat.le_trans (Nat.le_add_left 2 _) hk)
  exact a8 (by rfl) (by simp) (ak (bO (by tm_at "dk")) (ak (a8 (by cases t <;> rfl) (by simp) (ak (ih h (by tm_at "o")) aZ)) aZ))
 | bP t u ih oy =>
  intro k h hk
  replace hk : 2 * (max (ht t) (ht u) + 1) + 2 <= _ := hk
  obtain ⟨k, rfl⟩ := D6 (Nat.le_trans (Nat.le_add_left 2 _) hk)
  exact a8 (by rfl) (by simp) (ak (bO (by tm_at "dk")) (ak (a8 (by cases t <;> rfl) (by simp) (ak (ih h.1 (by tm_at "o")) (ak (oy h.2 (by tm_at "o")) aZ))) aZ))
 | bU r t ih =>
  intro k h hk
  replace hk : 2 * (ht t + 1) + 2 <= _ := hk
  obtain ⟨k, rfl⟩ := D6 (Nat.le_trans (Nat.le_add_left 2 _) hk)
  exact Cb (z9 h.1) (by simp) (by simp) (ak (a8 (by cases t <;> rfl) (by simp) (ak (ih h.2 (by tm_at "o")) aZ)) aZ)
structure yg (tab : List (Str × Ty)) : Prop where
 a : gB tab (.par (oS "A"))
 b : gB tab (.par (oS "B"))
def yh {r : Row} {n : Int} (h : yg tab) (hr : r ∈ dy n) : Cz tab 12 (cD r) (cD (dX tab r)) := by
 have e1 : Cz tab 8 (enc (.i (oS "i32"))) (enc (plainT tab (.i (oS "i32")))) := eF (show PyData.strOk (oS "i32") = true by decide+kernel) (by tm_at "ble")
 have e2 : Cz tab 8 (enc (.bU (some (oS "'z")) (.par (oS "A")))) (enc (plainT tab (.bU (some (oS "'z")) (.par (oS "A"))))) := eF ⟨⟨by decide +kernel, by decide +kernel, by decide +kernel⟩, h.a⟩ (by tm_at "ble")
 have e3 : Cz tab 8 (enc (.i (oS "i64"))) (enc (plainT tab (.i (oS "i64")))) := eF (show PyData.strOk (oS "i64") = true by decide+kernel) (by tm_at "ble")
 have e4 : Cz tab 8 (enc (.bP (.par (oS "A")) (.i (oS "i32")))) (enc (plainT tab (.bP (.par (oS "A")) (.i (oS "i32"))))) := eF ⟨h.a, show PyData.strOk (oS "i32") = true by decide +kernel⟩ (by tm_at "ble")
 delta dy at hr; simp only [List.mem_cons, List.not_mem_nil, or_false] at hr
 rcases hr with rfl | rfl | rfl | rfl | rfl | rfl | rfl | rfl | rfl | rfl | rfl
 all_goals
  dsimp only [cD, dX, vF, uA, dI, cQ, vQ, List.map, place]
  repeat (first | with_reducible exact e1.mono (by tm_at "ble") | with_reducible exact e2.mono (by tm_at "ble") | with_reducible exact e3.mono (by tm_at "ble") | with_reducible exact e4.mono (by tm_at "ble") | tm_at "czstep")
def uS {kd : Str} (h : kd ∈ qt) : Cz tab 12 (cD (r7 kd)) (cD (dX tab (r7 kd))) := by
 delta qt at h; simp only [List.mem_cons, List.not_mem_nil, or_false] at h
 rcases h with rfl | rfl | rfl
 all_goals
  dsimp only [r7, cD, dX, vF, uA, place, eM]
  repeat tm_at "czstep"
end
section
noncomputable def Dp : Ty -> Prop
 | .i n => n = (oS "i32")
 | .bool => True
 | .par _ => False
 | .ref r _ t => r = none /\ Dp t
 | .box t => Dp t
 | .arr t n => (1 <= n /\ n <= 3) /\ Dp t
 | .dj => False
 | .dq t => Dp t
 | .bP t u => t = u /\ Dp t
 | .bU r t => r = none /\ Dp t
def D7 {T : Ty} (h : Dp T) : Cl T := by
 induction T with
 | i n => exact h
 | bool => trivial
 | par n => exact h.elim
 | ref r m t ih => exact ⟨h.1, ih h.2⟩
 | box t ih => exact ih h
 | arr t n ih => exact ⟨⟨by have := h.1; tm_at "o", by have := h.1; tm_at "o"⟩, ih h.2⟩
 | dj => exact h.elim
 | dq t ih => exact ih h
 | bP t u ih _ => exact ⟨ih h.2, h.1 ▸ ih h.2⟩
 | bU r t ih => exact ⟨h.1, ih h.2⟩
def dB {T : Ty} (h : Cl T) : isPlain T = true := by
 induction T with
 | i n => subst h; decide +kernel
 | par n => exact h.elim
 | ref r m t ih => exact Bool.and_eq_true_iff.mpr ⟨h.1 ▸ rfl, ih h.2⟩
 | box t ih => exact ih h
 | arr t n ih => exact Bool.and_eq_true_iff.mpr ⟨decide_eq_true h.1, ih h.2⟩
 | dq t ih => exact ih h
 | bP t u ih oy => exact Bool.and_eq_true_iff.mpr ⟨ih h.1, oy h.2⟩
 | bU r t ih => exact Bool.and_eq_true_iff.mpr ⟨h.1 ▸ rfl, ih h.2⟩
 | _ => rfl
def eG {T : Ty} (h : Cl T) : bB T = T := kY (dB h)
def o9 {T : Ty} (h : Cl T) : fy T = true := bI (dB h)
def yi {T : Ty} (h : Cl T) : br T = aQ T := by
 induction T with
 | par n => exact h.elim
 | arr t n ih => exact ih h.2
 | dq t ih => exact ih h
 | bP t u ih oy => exact congr (f₁ := or (br t)) (congrArg or (ih h.1)) (oy h.2)
 | _ => rfl
def D8 {a n : Nat} (h : a + 1 <= 2 ^ (n + 1)) : a + 1 + 1 <= 2 ^ (n + 1 + 1) := by rw [Nat.pow_succ]; tm_at "o"
def Aa (T : Ty) : aV T + 1 <= 2 ^ (ht T + 1) := by
 induction T with
 | ref r m t ih => exact D8 ih
 | box t ih => exact D8 ih
 | arr t n ih => exact D8 ih
 | dq t ih => exact D8 ih
 | bU r t ih => exact D8 ih
 | bP t u h1 h2 =>
  have h3 : 2 ^ (ht t + 1) <= 2 ^ (max (ht t) (ht u) + 1) := Nat.pow_le_pow_right (by tm_at "o") (by tm_at "o")
  have h4 : 2 ^ (ht u + 1) <= 2 ^ (max (ht t) (ht u) + 1) := Nat.pow_le_pow_right (by tm_at "o") (by tm_at "o")
  skip
  rw [Nat.pow_succ]; exact dbl h1 h2 h3 h4
 | _ => exact Nat.le_of_ble_eq_true rfl
def size_le {T : Ty} {m : Nat} (h : ht T <= m) : aV T + 1 <= 2 ^ (m + 1) := Nat.le_trans (Aa T) (Nat.pow_le_pow_right (by tm_at "o") (by tm_at "o"))
def text_len {T : Ty} (h : Cl T) : (txt T).length <= 5 * aV T := by
 induction T with
 | i n => subst h; exact Nat.le_of_ble_eq_true rfl
 | bool => exact Nat.le_of_ble_eq_true rfl
 | par n => exact h.elim
 | ref r m t ih =>
  have ih := ih h.2
  show _ <= 5 * (aV t + 1)
  induction m
  .rw [qv]; dsimp only [List.length_cons]; tm_at "o"
  .rw [qu]; dsimp only [List.length_cons]; tm_at "o"
 | dj => exact Nat.le_of_ble_eq_true rfl
 | box t ih => have ih := ih h; show _ <= 5 * (aV t + 1); rw [qw]; simp only [List.length_cons, List.length_append, List.length_nil]; tm_at "o"
 | arr t n ih => have ih := ih h.2; show _ <= 5 * (aV t + 1); rw [qy h.1]; simp only [List.length_cons, List.length_append, List.length_nil]; tm_at "o"
 | dq t ih => have ih := ih h; show _ <= 5 * (aV t + 1); rw [qz]; simp only [List.length_cons, List.length_append, List.length_nil]; tm_at "o"
 | bP t u ih oy => have ih := ih h.1; have oy := oy h.2; show _ <= 5 * (aV t + aV u + 1); rw [qA]; simp only [List.length_cons, List.length_append, List.length_nil]; tm_at "o"
 | bU r t ih => have ih := ih h.2; show _ <= 5 * (aV t + 1); rw [qx]; simp only [List.length_cons, List.length_append, List.length_nil]; tm_at "o"
def txt_length (T : Ty) : (aq T).length = (txt T).length := by (dsimp only [txt, codes]; rfl)
def mU {T : Ty} {m : Nat} (h : Cl T) (hm : ht T <= m) (h8 : m <= 8) : (aq T).length <= 5000 := by
 have h1 := text_len h
 have h2 := size_le hm
 have h3 : 2 ^ (m + 1) <= 2 ^ 9 := Nat.pow_le_pow_right (by tm_at "o") (by tm_at "o")
 rw [txt_length]
 have : (2 : Nat) ^ 9 = 512 := rfl
 tm_at "o"
structure Ab (tab : List (Str × Ty)) (T : Ty) : Prop where
 dp : Dp (bB T)
 ht : ht (bB T) = ht T
 ok : gB tab T
 sub : bh tab T = T
 fy : fy T = true
 sz : aV (bB T) = aV T
def yj {T : Ty} (h : Drawn T) : Ab tab T := by
 induction T with
 | i n => subst h; exact ⟨rfl, rfl, by show PyData.strOk _ = true; decide +kernel, rfl, by decide +kernel, rfl⟩
 | bool => exact ⟨trivial, rfl, trivial, rfl, rfl, rfl⟩
 | par n => exact h.elim
 | dj => exact h.elim
 | ref r m t ih =>
  have i := ih h.2
  obtain rfl := h.1
  exact ⟨⟨rfl, i.dp⟩, congrArg (· + 1) i.ht, ⟨⟨by decide +kernel, by decide +kernel, by decide +kernel⟩, i.ok⟩, congrArg _ i.sub, Bool.and_eq_true_iff.mpr ⟨by decide +kernel, i.fy⟩, congrArg (· + 1) i.sz⟩
 | box t ih => have i := ih h; exact ⟨i.dp, congrArg (· + 1) i.ht, i.ok, congrArg _ i.sub, i.fy, congrArg (· + 1) i.sz⟩
 | arr t n ih => have i := ih h.2.2; exact ⟨⟨⟨h.1, h.2.1⟩, i.dp⟩, congrArg (· + 1) i.ht, i.ok, congrArg (Ty.arr · n) i.sub, i.fy, congrArg (· + 1) i.sz⟩
 | dq t ih => have i := ih h; exact ⟨i.dp, congrArg (· + 1) i.ht, i.ok, congrArg _ i.sub, i.fy, congrArg (· + 1) i.sz⟩
 | bP t u ih _ =>
  have i := ih h.2
  obtain rfl := h.1
  exact ⟨⟨rfl, i.dp⟩, congrArg (fun n => max n n + 1) i.ht, ⟨i.ok, i.ok⟩, congrArg (fun t => Ty.bP t t) i.sub, Bool.and_eq_true_iff.mpr ⟨i.fy, i.fy⟩, congrArg (fun n => n + n + 1) i.sz⟩
 | bU r t ih =>
  have i := ih h.2
  obtain rfl := h.1
  exact ⟨⟨rfl, i.dp⟩, congrArg (· + 1) i.ht, ⟨⟨by decide +kernel, by decide +kernel, by decide +kernel⟩, i.ok⟩, congrArg _ i.sub, Bool.and_eq_true_iff.mpr ⟨by decide +kernel, i.fy⟩, congrArg (· + 1) i.sz⟩
noncomputable def le : Ty -> Nat
 | .i _ => 1
 | .bool => 1
 | .par _ => 1
 | .ref _ _ t => le t + 1
 | .box t => le t + 1
 | .arr t _ => le t + 1
 | .dj => 2
 | .dq t => le t + 2
 | .bP t u => max (le t) (le u) + 2
 | .bU _ t => le t + 2
def A1 (r : dr) {k : Nat} : om (eM r) <= k := by induction r <;> exact Nat.zero_le _
theorem e8 : ∀ T : Ty, om (enc T) <= le T
 | .i _ => Nat.le_of_ble_eq_true rfl
 | .bool => Nat.le_of_ble_eq_true rfl
 | .par _ => Nat.le_of_ble_eq_true rfl
 | .dj => Nat.le_of_ble_eq_true rfl
 | .ref r _ t => Nat.succ_le_succ (nO (mx (A1 r) (nO (qj (e8 t)))))
 | .box t => Nat.succ_le_succ (nO (qj (e8 t)))
 | .arr t _ => Nat.succ_le_succ (nO (mx (e8 t) (nO (Nat.zero_le _))))
 | .dq t => Nat.succ_le_succ (nO (qj (Nat.succ_le_succ (qj (e8 t)))))
 | .bP t u => Nat.succ_le_succ (nO (qj (Nat.succ_le_succ (mx (Nat.le_trans (e8 t) (Nat.le_max_left _ _)) (qj (Nat.le_trans (e8 u) (Nat.le_max_right _ _)))))))
 | .bU r t => Nat.succ_le_succ (nO (nO (mx (Nat.succ_le_succ (qj (A1 r))) (qj (Nat.succ_le_succ (qj (e8 t)))))))
def CL {a b : Nat} (h : a <= 2 * b + 1) : a + 2 <= 2 * (b + 1) + 1 := Nat.succ_le_succ (Nat.succ_le_succ h)
def A4 {T : Ty} (h : Dp T) : le T <= 2 * ht T + 1 := by
 induction T with
 | ref r m t ih => exact Nat.le_of_succ_le (CL (ih h.2))
 | box t ih => exact Nat.le_of_succ_le (CL (ih h))
 | arr t n ih => exact Nat.le_of_succ_le (CL (ih h.2))
 | dj => exact h.elim
 | dq t ih => exact CL (ih h)
 | bP t u ih _ => obtain rfl := h.1; exact CL (by rw [Nat.max_self, Nat.max_self]; exact ih h.2)
 | bU r t ih => exact CL (ih h.2)
 | _ => exact Nat.le_refl 1
def Ha {a b : Nat} (h : a <= 2 * b) : a + 2 <= 2 * (b + 1) := Nat.succ_le_succ (Nat.succ_le_succ h)
def Cd {T : Ty} (h : Dp T) (b : aQ T = true) : le T <= 2 * ht T := by
 induction T with
 | par n => exact h.elim
 | box t ih => exact Nat.succ_le_succ (A4 (T := t) h)
 | arr t n ih => exact Nat.le_of_succ_le (Ha (ih h.2 b))
 | dq t ih => exact Ha (ih h b)
 | bP t u ih _ => obtain rfl := h.1; exact Ha (by rw [Nat.max_self, Nat.max_self]; exact ih h.2 (by refine (Bool.or_self (aQ t)) ▸ ?_; exact b))
 | _ => contradiction
structure ia (t : Ty) : Prop where
 dp : Dp t
 ht : ht t <= 2
inductive sj : Ty -> Prop
 | one {t} : ia t -> sj t
 | two {t} : ia t -> sj (.bP t .bool)
 | ref {t} : ia t -> sj (.ref none true t)
def ia.cl {t : Ty} (h : ia t) : Cl t := D7 h.dp
theorem sj.cl {t : Ty} (h : sj t) : Cl t := by
 induction h with
 | one h => exact h.cl
 | two h => exact ⟨h.cl, trivial⟩
 | ref h => exact ⟨rfl, h.cl⟩
theorem sj.ht {t : Ty} (h : sj t) : ht t <= 3 := by
 induction h with
 | one h => have := h.ht; tm_at "o"
 | two h => have := h.ht; dsimp only [Mine.ht]; tm_at "o"
 | ref h => have := h.ht; dsimp only [Mine.ht]; tm_at "o"
def ia.box {t : Ty} (h : ia t) (b : aQ t = true) : le t <= 4 := by have := Cd h.dp b; have := h.ht; tm_at "o"
theorem ia.le {t : Ty} (h : ia t) : le t <= 5 := by have := A4 h.dp; have := h.ht; tm_at "o"
set_option tactic.hygienic true in
theorem sj.box {t : Ty} (h : sj t) (b : aQ t = true) : Mine.le t <= 6 := by
 induction h with
 | one h => have := h.box b; tm_at "o"
 | two h =>
  rename_i t
  have hb : aQ t = true := (Bool.or_false _).symm.trans b
  have := h.box hb; dsimp only [Mine.le]; tm_at "o"
 | ref h => contradiction
def A5 {t : Ty} (h : Cl t) (hh : ht t <= 5) (hl : le t <= 8) : nP t := ⟨dB h, Nat.le_trans (e8 t) hl, by have := size_le hh; have e : (2 : Nat) ^ (5 + 1) = 64 := rfl; tm_at "o"⟩
end
section
noncomputable def a9 (a b : Ty) : List (Str × Ty) := [(oS "A", a), (oS "B", b)]
noncomputable def eH (c : Ty) : List (Str × Ty) := [(oS "T", c)]
def D9 {a b U : Ty} {n : Str} (h : gz (a9 a b) n = some U) : U = a \/ U = b := by
 dsimp only [a9, gz] at h
 split at h
 .exact .inl (Option.some.inj h).symm
 .split at h
  .exact .inr (Option.some.inj h).symm
  .contradiction
def Ea {c U : Ty} {n : Str} (h : gz (eH c) n = some U) : U = c := by
 dsimp only [eH, gz] at h
 split at h
 .exact (Option.some.inj h).symm
 .contradiction
def Ce {a b : Ty} (ha : ia a) (hb : ia b) : mQ (a9 a b) :=
 ⟨fun n U h => (D9 h).elim (fun e => e ▸ o9 ha.cl) fun e => e ▸ o9 hb.cl, fun n U h => (D9 h).elim (fun e => by rw [e]; have := ha.ht; tm_at "o") fun e => by rw [e]; have := hb.ht; tm_at "o"⟩
def Cf {c : Ty} (h : sj c) : mQ (eH c) := ⟨fun n U e => Ea e ▸ o9 h.cl, fun n U e => by rw [Ea e]; have := h.ht; tm_at "o"⟩
def yk : mQ [] := ⟨fun n U e => (nomatch e), fun n U e => (nomatch e)⟩
def Eb {a b : Ty} (ha : ia a) : gB (a9 a b) (.par (oS "A")) := ⟨by decide +kernel, a, by rfl, eG ha.cl⟩
def yl {a b : Ty} (hb : ia b) : gB (a9 a b) (.par (oS "B")) := ⟨by decide +kernel, b, by rfl, eG hb.cl⟩
def Hb {c : Ty} (hc : sj c) : gB (eH c) (.par (oS "T")) := ⟨by decide +kernel, c, by rfl, eG hc.cl⟩
def Ec (a b : Ty) : bh (a9 a b) (.par (oS "A")) = a := by rfl
def subB (a b : Ty) : bh (a9 a b) (.par (oS "B")) = b := by rfl
def Ed (c : Ty) : bh (eH c) (.par (oS "T")) = c := by rfl
def K1 {a b : Ty} (ha : ia a) : plainT (a9 a b) (.par (oS "A")) = a := by show bB (bh _ _) = a; rw [Ec, eG ha.cl]
def IA {a b : Ty} (hb : ia b) : plainT (a9 a b) (.par (oS "B")) = b := by show bB (bh _ _) = b; rw [subB, eG hb.cl]
def K2 {c : Ty} (hc : sj c) : plainT (eH c) (.par (oS "T")) = c := by show bB (bh _ _) = c; rw [Ed, eG hc.cl]
noncomputable def iA (a b : Ty) : List Ty := [.dj, a, b, .ref none false a, .bP a (.i (oS "i32")), .box b, .bU none a, .bool, .arr b 2, .i (oS "i64")]
def jR {a b : Ty} (ha : ia a) (hb : ia b) : ef.map (plainT (a9 a b)) = iA a b := by
 have h1 := K1 (b := b) ha
 have h2 := IA (a := a) hb
 show [_, plainT (a9 a b) (.par (oS "A")), plainT (a9 a b) (.par (oS "B")), Ty.ref none false (plainT (a9 a b) (.par (oS "A"))), Ty.bP (plainT (a9 a b) (.par (oS "A"))) _, Ty.box (plainT (a9 a b) (.par (oS "B"))), Ty.bU none (plainT (a9 a b) (.par (oS "A"))), _, Ty.arr (plainT (a9 a b) (.par (oS "B"))) 2, _] = _
 rw [h1, h2]; rfl
noncomputable def lI (c : Ty) : List Ty := [.dj, .bP c .bool]
noncomputable def yS : List Ty := [.dj, .bP (.par (oS "T")) .bool]
def pd {c : Ty} (hc : sj c) : yS.map (plainT (eH c)) = lI c := by
 show [_, Ty.bP (plainT (eH c) (.par (oS "T"))) _] = _
 rw [K2 hc]; rfl
noncomputable def nU (sec b : Ty) : Ty := match sec with
 | .par _ => b
 | .bP _ _ => .bP b .bool
 | _ => .ref none true b
def fG {a b sec : Ty} (hb : ia b) (h : sec ∈ oX) : plainT (a9 a b) sec = nU sec b /\ sj (nU sec b) /\ gB (a9 a b) sec /\ fy (bh (a9 a b) sec) = true /\ aV (bh (a9 a b) sec) <= 20 /\ ht (bh (a9 a b) sec) <= 3 /\ ht sec <= 1 := by
 have h2 := IA (a := a) hb
 have hs := size_le hb.ht
 have e : (2 : Nat) ^ (2 + 1) = 8 := rfl
 have hh := hb.ht
 have ho := o9 hb.cl
 (dsimp only [oX] at h; simp only [List.mem_cons, List.not_mem_nil, or_false] at h)
 rcases h with rfl | rfl | rfl
 .refine ⟨h2, .one hb, yl hb, ?_, ?_, ?_, by decide⟩ <;> rw [subB]
  .exact ho
  .tm_at "o"
  .tm_at "o"
 .refine ⟨?_, .two hb, ⟨yl hb, trivial⟩, ?_, ?_, ?_, by decide⟩
  .show Ty.bP (plainT (a9 a b) (.par (oS "B"))) .bool = _
   rw [h2]; rfl
  .show (fy (bh (a9 a b) (.par (oS "B"))) && true) = true
   rw [subB, ho]; rfl
  .show aV (bh (a9 a b) (.par (oS "B"))) + 1 + 1 <= 20
   rw [subB]; tm_at "o"
  .show max (ht (bh (a9 a b) (.par (oS "B")))) 0 + 1 <= 3
   rw [subB]; tm_at "o"
 .refine ⟨?_, .ref hb, ⟨⟨by decide +kernel, by decide +kernel, by decide +kernel⟩, yl hb⟩, ?_, ?_, ?_, by decide⟩
  .show Ty.ref none true (plainT (a9 a b) (.par (oS "B"))) = _
   rw [h2]; rfl
  .show (PyData.strOk (oS "'x") && fy (bh (a9 a b) (.par (oS "B")))) = true
   rw [subB, ho]; decide +kernel
  .show aV (bh (a9 a b) (.par (oS "B"))) + 1 <= 20
   rw [subB]; tm_at "o"
  .show ht (bh (a9 a b) (.par (oS "B"))) + 1 <= 3
   rw [subB]; tm_at "o"
def eI {path : Str} {ts : List Ty} {h : Nat} (hp : path.length <= 1000) (hn : ts.length <= 2) (cL : ∀ t ∈ ts, Cl t /\ ht t <= 4) (hh : 4 <= h) : kZ path ts h := by
 refine ⟨fun t m => dB (cL t m).1, fun t m => Nat.le_trans (cL t m).2 hh, ?_⟩
 have hs : ∀ us : List Ty, (∀ t ∈ us, Cl t /\ ht t <= 4) -> ((us.map aq).map (·.length)).sum <= us.length * 5000 := by
  intro us
  induction us with
  | nil => intro _; simp
  | cons u us ih =>
   intro q
   have h1 := ih fun t m => q t (.tail _ m)
   have h2 := mU (q u (.head _)).1 (q u (.head _)).2 (by tm_at "o")
   simp only [List.map_cons, List.sum_cons, List.length_cons]
   tm_at "o"
 have := hs ts cL
 have : ts.length * 5000 <= 10000 := by tm_at "o"
 tm_at "o"
def df {path : Str} {ts : List Ty} (hp : PyData.strOk path = true) (hn : ts.length <= 2) (h : ∀ t ∈ ts, Cl t) : hO (path, ts) := ⟨hp, hn, fun t m => dB (h t m)⟩
def vU : ∀ {de : List (List Row)} {j : Int} {b : eC}, b ∈ bJ j de -> ∃ rs i, rs ∈ de /\ j <= i /\ i < j + de.length /\ b = (rs, .drop i (i + 2)) := by
 intro de; induction de with
 | nil => intro _ _ h; contradiction
 | cons r de ih =>
  intro j b h
  rcases List.mem_cons.mp h with rfl | h
  .exact ⟨r, j, .head _, Int.le_refl _, by simp only [List.length_cons]; tm_at "o", rfl⟩
  .k_dflt obtain ⟨rs, i, h1, h2, h3, rfl⟩ := ih h
   exact An rs i ⟨.tail _ h1, by tm_at "o", by simp only [List.length_cons]; tm_at "o", rfl⟩
inductive t7 (F : bC) : eC -> Prop
 | call : t7 F (gc F.rs F.sec)
 | ym : t7 F gd
 | drop {rs i} : hX rs -> 1 <= i -> i <= 5 -> t7 F (rs, .drop i (i + 2))
 | ret : t7 F ([], .ret)
def qD {F : bC} (hF : nR F) {b : eC} (h : b ∈ (fD F).bs) : t7 F b := by
 rcases List.mem_append.mp h with h | h
 .rcases List.mem_cons.mp h with rfl | h
  .exact .call
  .rcases List.mem_cons.mp h with rfl | h
   .exact .ym
   .obtain ⟨rs, i, h1, h2, h3, rfl⟩ := vU h
    have := hF.n
    exact .drop (hF.de rs h1) h2 (by tm_at "o")
 .cases List.mem_singleton.mp h; exact .ret
def t7.rows {F : bC} (hF : nR F) {b : eC} (h : t7 F b) : hX b.1 := by
 have h0 : hX [] := ⟨by simp, List.forall_mem_nil _⟩
 induction h with
 | call => exact hF.rs
 | ym => exact h0
 | drop h => exact h
 | ret => exact h0
def yn {F : bC} (hF : nR F) : (fD F).bs.length = 8 := by
 show (dY F.rs F.sec F.de ++ [(([], Mine.Term.ret) : eC)]).length = 8
 (dsimp only [dY]; simp [hY, hF.n])
def Ac {F : bC} {a b : Ty} (ha : ia a) (hb : ia b) {rs : List Row} (h : hX rs) : ∀ r ∈ rs, i8 (a9 a b) (cD r) (cD (dX (a9 a b) r)) := fun r hr => by
 have pk : yg (a9 a b) := ⟨Eb ha, yl hb⟩
 rcases h.each r hr with ⟨kd, hk, rfl⟩ | ⟨n, hn⟩
 .exact ⟨(uS hk).1, (uS hk).2⟩
 .exact ⟨(yh pk hn).1, (yh pk hn).2⟩
def vV {a b : Ty} (ha : ia a) (hb : ia b) : ∀ T ∈ iA a b, isPlain T = true /\ br T = aQ T /\ ht T <= 3 := by
 have h1 := ha.ht
 have h2 := hb.ht
 have k : ∀ {T : Ty}, Cl T -> ht T <= 3 -> isPlain T = true /\ br T = aQ T /\ ht T <= 3 := fun c z => ⟨dB c, yi c, z⟩
 intro T h
 (dsimp only [iA] at h; simp only [List.mem_cons, List.not_mem_nil, or_false] at h)
 rcases h with rfl | rfl | rfl | rfl | rfl | rfl | rfl | rfl | rfl | rfl
 .exact k trivial (by (dsimp only [ht]; simp))
 .exact k ha.cl (by tm_at "o")
 .exact k hb.cl (by tm_at "o")
 .exact k ⟨rfl, ha.cl⟩ (by dsimp only [ht]; tm_at "o")
 .exact k ⟨ha.cl, rfl⟩ (by dsimp only [ht]; tm_at "o")
 .exact k hb.cl (by dsimp only [ht]; tm_at "o")
 .exact k ⟨rfl, ha.cl⟩ (by dsimp only [ht]; tm_at "o")
 .exact k trivial (by (dsimp only [ht]; simp))
 .exact k ⟨by decide, hb.cl⟩ (by dsimp only [ht]; tm_at "o")
 .exact ⟨by decide +kernel, rfl, by (dsimp only [ht]; simp)⟩
def Ad {a b : Ty} (ha : ia a) (hb : ia b) {i : Int} (h1 : 1 <= i) (h5 : i <= 5) : ∃ T, (iA a b)[i.toNat]? = some T /\ isPlain T = true /\ ht T <= 3 /\ wt T <= 1000 /\ (aQ T = true -> nP T) := by
 have a1 := ha.ht
 have b1 := hb.ht
 have k : ∀ {T : Ty}, Cl T -> ht T <= 3 -> (aQ T = true -> le T <= 8) -> isPlain T = true /\ ht T <= 3 /\ wt T <= 1000 /\ (aQ T = true -> nP T) := fun {T} c z q =>
  ⟨dB c, z, by have := qm T; have := size_le z; have e : (2 : Nat) ^ (3 + 1) = 16 := rfl; tm_at "o", fun hb => A5 c (by tm_at "o") (q hb)⟩
 have : i = 1 \/ i = 2 \/ i = 3 \/ i = 4 \/ i = 5 := by tm_at "o"
 rcases this with rfl | rfl | rfl | rfl | rfl
 .exact ⟨_, rfl, k ha.cl (by tm_at "o") fun h => by have := ha.box h; tm_at "o"⟩
 .exact ⟨_, rfl, k hb.cl (by tm_at "o") fun h => by have := hb.box h; tm_at "o"⟩
 .exact ⟨_, rfl, k ⟨rfl, ha.cl⟩ (by dsimp only [ht]; tm_at "o") fun h => by contradiction⟩
 .refine ⟨_, rfl, k ⟨ha.cl, rfl⟩ (by dsimp only [ht]; tm_at "o") fun h => ?_⟩
  have := ha.le; dsimp only [le]; tm_at "o"
 .refine ⟨_, rfl, k hb.cl (by dsimp only [ht]; tm_at "o") fun h => ?_⟩
  have := hb.le; dsimp only [le]; tm_at "o"
def ky {a b : Ty} (ha : ia a) (hb : ia b) : ∀ T ∈ ef, gB (a9 a b) T /\ ht T <= 1 /\ deep (a9 a b) T <= 3 := by
 have h1 := ha.ht
 have h2 := hb.ht
 have pa := Eb (b := b) ha
 have pb := yl (a := a) hb
 have rx : sh (some (oS "'x")) := ⟨by decide +kernel, by decide +kernel, by decide +kernel⟩
 have sa := Ec a b
 have sb := subB a b
 have i3 : PyData.strOk (oS "i32") = true := by decide +kernel
 have i6 : PyData.strOk (oS "i64") = true := by decide +kernel
 intro T h
 (dsimp only [ef] at h; simp only [List.mem_cons, List.not_mem_nil, or_false] at h)
 rcases h with rfl | rfl | rfl | rfl | rfl | rfl | rfl | rfl | rfl | rfl
 .exact ⟨trivial, by (dsimp only [ht]; simp), by tm_at "ble"⟩
 .exact ⟨pa, by (dsimp only [ht]; simp), by unfold deep; rw [sa]; dsimp only [ht]; tm_at "o"⟩
 .exact ⟨pb, by (dsimp only [ht]; simp), by unfold deep; rw [sb]; dsimp only [ht]; tm_at "o"⟩
 .exact ⟨⟨rx, pa⟩, by (dsimp only [ht]; simp), by show max (0 + 1) (ht (bh _ _) + 1) <= 3; rw [sa]; tm_at "o"⟩
 .exact ⟨⟨pa, i3⟩, by (dsimp only [ht]; simp), by show max (max 0 0 + 1) (max (ht (bh _ _)) 0 + 1) <= 3; rw [sa]; tm_at "o"⟩
 .exact ⟨pb, by (dsimp only [ht]; simp), by show max (0 + 1) (ht (bh _ _) + 1) <= 3; rw [sb]; tm_at "o"⟩
 .exact ⟨⟨rx, pa⟩, by (dsimp only [ht]; simp), by show max (0 + 1) (ht (bh _ _) + 1) <= 3; rw [sa]; tm_at "o"⟩
 .exact ⟨trivial, by (dsimp only [ht]; simp), by tm_at "ble"⟩
 .exact ⟨pb, by (dsimp only [ht]; simp), by show max (0 + 1) (ht (bh _ _) + 1) <= 3; rw [sb]; tm_at "o"⟩
 .exact ⟨i6, by (dsimp only [ht]; simp), by tm_at "ble"⟩
def sm {P : Params} {F : bC} (hF : nR F) {a b : Ty} (ha : ia a) (hb : ia b) : dU P (a9 a b) (fD F) where
 tb := Ce ha hb
 nL := by show ef.length <= 60; decide
 nB := by rw [yn hF]; tm_at "o"
 sp := .inl rfl
 ls := fun T hT => by
  obtain ⟨h1, h2, h3⟩ := ky ha hb T hT
  have hm : plainT (a9 a b) T ∈ iA a b := jR ha hb ▸ List.mem_map_of_mem hT
  obtain ⟨k1, k2, k3⟩ := vV ha hb _ hm
  have hz := eF (k := 12) h1 (by tm_at "o")
  exact ⟨⟨hz.1, hz.2⟩, bI k1, by tm_at "o", k2⟩
 rows := fun bl iJ => by
  have hr := (qD hF iJ).rows hF
  exact ⟨by have := hr.n; tm_at "o", Ac (F := F) ha hb hr⟩
 ends := fun bl iJ => by
  cases qD hF iJ with
  | call =>
   k_dflt obtain ⟨s1, s2, s3, s4, s5, s6, s7⟩ := fG (a := a) hb hF.sec
   have hz : Cz (a9 a b) 8 (enc F.sec) (enc (plainT (a9 a b) F.sec)) := eF s3 (by tm_at "o")
   have tF : ∀ t ∈ [plainT (a9 a b) F.sec], Cl t /\ ht t <= 4 := fun t cL => by
    cases List.mem_singleton.mp cL
    refine s1 ▸ ?_
    exact ⟨s2.cl, by have := s2.ht; tm_at "o"⟩
   have hc : Cz (a9 a b) 12 (bQ (gc F.rs F.sec).2) (dE (a9 a b) (gc F.rs F.sec).2) := by
    dsimp only [gc, bQ, dE, fA, List.map, dI, cQ, place]
    refine a8 (by rfl) (by simp) (ak (bO (by tm_at "dk")) (ak (a8 (by rfl) (by simp) (ak (bO (by tm_at "dk")) (ak (bO (by tm_at "dk")) (ak (a8 (by cases F.sec <;> rfl) (by simp) (ak (hz.mono (by tm_at "o")) aZ)) aZ)))) ?_))
    refine ak (a8 (by rfl) (by simp) (ak (a8 (by rfl) (by simp) (ak (bO (by tm_at "dk")) (ak ?_ aZ))) aZ)) (ak ?_ (ak eE aZ))
    .exact a8 (by rfl) (by simp) (ak eE (ak (a8 (by rfl) (by simp) aZ) aZ))
    .exact a8 (by rfl) (by simp) (ak eE (ak (a8 (by rfl) (by simp) aZ) aZ))
   exact ⟨⟨hc.1, hc.2⟩, eI (by tm_at "dk") (by simp) tF (by tm_at "o"), df (by tm_at "dk") (by simp) fun t m => (tF t m).1⟩
  | ym =>
   have hz : Cz (a9 a b) 8 (enc .bool) (enc (plainT (a9 a b) .bool)) := eF trivial (by (dsimp only [ht]; simp))
   have hc : Cz (a9 a b) 12 (bQ gd.2) (dE (a9 a b) gd.2) := by
    dsimp only [gd, bQ, dE, dI, cQ]
    exact a8 (by rfl) (by simp) (ak (bO (by tm_at "dk")) (ak (a8 (by rfl) (by simp) (ak (bO (by tm_at "dk")) (ak (hz.mono (by tm_at "o")) (ak qC aZ)))) (ak qC (ak (bO (by tm_at "dk")) (ak eE aZ)))))
   exact ⟨⟨hc.1, hc.2⟩, trivial⟩
  | @drop rs i hr h1 h5 =>
   have hc : Cz (a9 a b) 12 (bQ (.drop i (i + 2))) (dE (a9 a b) (.drop i (i + 2))) := by
    dsimp only [bQ, dE]
    exact a8 (by rfl) (by simp) (ak (bO (by tm_at "dk")) (ak (a8 (by rfl) (by simp) (ak eE (ak (a8 (by rfl) (by simp) aZ) aZ))) (ak eE aZ)))
   refine ⟨⟨hc.1, hc.2⟩, by tm_at "o", by tm_at "o", ?_⟩
   have j7 : i.toNat < ef.length := by have : ef.length = 10 := rfl; tm_at "o"
   exact ⟨_, List.getElem?_eq_getElem j7⟩
  | ret =>
   have hc : Cz (a9 a b) 12 (bQ .ret) (dE (a9 a b) .ret) := a8 (by rfl) (by simp) (ak (bO (by tm_at "dk")) aZ)
   exact ⟨⟨hc.1, hc.2⟩, trivial⟩
end
section
def so {P : Params} {F : bC} {c : Ty} (hc : sj c) : dU P (eH c) (gD F P) where
 tb := Cf hc
 nL := by show (2 : Nat) <= 60; decide
 nB := by show (2 : Nat) <= 60; decide
 sp := .inr rfl
 ls := fun T hT => by
  have hh := hc.ht
  have hm : plainT (eH c) T ∈ lI c := pd hc ▸ List.mem_map_of_mem (f := plainT (eH c)) (show T ∈ yS from hT)
  have k : Cl (plainT (eH c) T) /\ ht (plainT (eH c) T) <= 4 := by
   (dsimp only [lI] at hm; simp only [List.mem_cons, List.not_mem_nil, or_false] at hm)
   rcases hm with e | e <;> rw [e]
   .exact ⟨trivial, by (dsimp only [ht]; simp)⟩
   .exact ⟨⟨hc.cl, trivial⟩, by dsimp only [ht]; tm_at "o"⟩
  have ty : gB (eH c) T /\ ht T <= 1 := by
   (dsimp only [gD] at hT; simp only [List.mem_cons, List.not_mem_nil, or_false] at hT)
   rcases hT with rfl | rfl
   .exact ⟨trivial, by (dsimp only [ht]; simp)⟩
   .exact ⟨⟨Hb hc, trivial⟩, by (dsimp only [ht]; simp)⟩
  have hz := eF (k := 12) ty.1 (by tm_at "o")
  exact ⟨⟨hz.1, hz.2⟩, o9 k.1, by tm_at "o", yi k.1⟩
 rows := fun bl iJ => by
  (dsimp only [gD] at iJ; simp only [List.mem_cons, List.not_mem_nil, or_false] at iJ)
  rcases iJ with rfl | rfl <;> exact ⟨by simp, List.forall_mem_nil _⟩
 ends := fun bl iJ => by
  (dsimp only [gD] at iJ; simp only [List.mem_cons, List.not_mem_nil, or_false] at iJ)
  rcases iJ with rfl | rfl
  .have hc : Cz (eH c) 12 (bQ (.drop 1 1)) (dE (eH c) (.drop 1 1)) := by
    dsimp only [bQ, dE]
    exact a8 (by rfl) (by simp) (ak (bO (by tm_at "dk")) (ak (a8 (by rfl) (by simp) (ak eE (ak (a8 (by rfl) (by simp) aZ) aZ))) (ak eE aZ)))
   exact ⟨⟨hc.1, hc.2⟩, by tm_at "o", by tm_at "o", _, rfl⟩
  .have hc : Cz (eH c) 12 (bQ .ret) (dE (eH c) .ret) := a8 (by rfl) (by simp) (ak (bO (by tm_at "dk")) aZ)
   exact ⟨⟨hc.1, hc.2⟩, trivial⟩
structure gf (cs : List (Str × List Ty)) : Prop where
 n : cs.length <= 5
 each : ∀ c ∈ cs, PyData.strOk c.1 = true /\ c.1.length <= 1000 /\ c.2.length <= 2 /\ ∀ t ∈ c.2, Drawn t /\ ht t <= 2
theorem uT {α : Type} : ∀ {cs : List α} {i : Int} {p : Int × α}, p ∈ hW i cs -> p.2 ∈ cs
 | [], _, _, h => nomatch h
 | c :: cs, i, p, h => by
  rcases List.mem_cons.mp h with rfl | h
  .exact .head _
  .exact .tail _ (uT h)
inductive Cg (cs : List (Str × List Ty)) : eC -> Prop
 | call {c k} : c ∈ cs -> Cg cs ([], i7 c k)
 | ret : Cg cs ([], .ret)
def dR {cs : List (Str × List Ty)} {b : eC} (h : b ∈ cS cs) : Cg cs b := by
 rcases List.mem_append.mp h with h | h
 .obtain ⟨p, hp, rfl⟩ := List.mem_map.mp h
  exact .call (uT hp)
 .cases List.mem_singleton.mp h; exact .ret
def mV {cs : List (Str × List Ty)} (h : gf cs) : (cS cs).length <= 6 := by
 have := h.n
 (dsimp only [cS]; simp only [List.length_append, List.length_map, jN, List.length_cons, List.length_nil])
 tm_at "o"
def ib {t : Ty} (h : Drawn t) (hh : ht t <= 2) : ia (plainT [] t) /\ gB [] t /\ bh [] t = t /\ fy t = true /\ aV t <= 7 := by
 k_dflt obtain ⟨h1, h2, h3, h4, h5, h6⟩ := yj (tab := []) h
 have e : plainT [] t = bB t := by show bB (bh [] t) = _; rw [h4]
 have hs := size_le hh
 have e2 : (2 : Nat) ^ (2 + 1) = 8 := rfl
 exact ⟨e ▸ ⟨h1, by rw [h2]; exact hh⟩, h3, h4, h5, by tm_at "o"⟩
def la {cs : List (Str × List Ty)} (h : gf cs) {c : Str × List Ty} (hc : c ∈ cs) : ∀ t ∈ c.2.map (plainT []), Cl t /\ ht t <= 4 := fun t cL => by
 obtain ⟨u, hu, rfl⟩ := List.mem_map.mp cL
 obtain ⟨h1, h2⟩ := (h.each c hc).2.2.2 u hu
 have f := (ib h1 h2).1
 exact ⟨f.cl, by have := f.ht; tm_at "o"⟩
def lb {P : Params} {e : Addr} {cs : List (Str × List Ty)} (h : gf cs) : dU P [] (cF e P cs) where
 tb := yk
 nL := by show (1 : Nat) <= 60; decide
 nB := by have := mV h; show (cS cs).length <= 60; tm_at "o"
 sp := .inr rfl
 ls := fun T hT => by
  cases List.mem_singleton.mp hT
  have hz : Cz [] 12 (enc .dj) (enc (plainT [] .dj)) := eF trivial (by (dsimp only [ht]; simp))
  exact ⟨⟨hz.1, hz.2⟩, by rfl, by (dsimp only [plainT, bh, bB, gA, ht]; simp), by rfl⟩
 rows := fun bl iJ => by
  cases dR iJ <;> exact ⟨by simp, List.forall_mem_nil _⟩
 ends := fun bl iJ => by
  cases dR iJ with
  | @call c k hc =>
   obtain ⟨p1, p2, p3, p4⟩ := h.each c hc
   have hz : ∀ t ∈ c.2, Cz [] 8 (enc t) (enc (plainT [] t)) := fun t cL => by
    obtain ⟨q1, q2⟩ := p4 t cL
    exact eF (ib q1 q2).2.1 (by tm_at "o")
   have K3 : A0 [] 8 (c.2.map enc) ((c.2.map (plainT [])).map enc) := by
    rw [List.map_map]; exact B9 hz
   have hd : tZ (c.2.map enc) = true := by
    rcases c with ⟨p, _ | ⟨t, _ | ⟨u, ts⟩⟩⟩
    .rfl
    .induction t <;> rfl
    .induction t <;> rfl
   have IB : Cz [] 12 (bQ (i7 c k)) (dE [] (i7 c k)) := by
    dsimp only [i7, bQ, dE, fA, List.map, place]
    refine a8 (by rfl) (by simp) (ak (bO (by tm_at "dk")) (ak (a8 (by rfl) (by simp) (ak (bO (by tm_at "dk")) (ak (bO p1) (ak (Cz.mono (k := 9) (a8 hd (by simp; tm_at "o") K3) (by tm_at "o")) aZ)))) ?_))
    refine ak (a8 (by rfl) (by simp) aZ) (ak ?_ (ak eE aZ))
    exact a8 (by rfl) (by simp) (ak eE (ak (a8 (by rfl) (by simp) aZ) aZ))
   have hp := la h hc
   exact ⟨⟨IB.1, IB.2⟩, eI p2 (by simp; tm_at "o") hp (by tm_at "o"), df p1 (by simp; tm_at "o") fun t cL => (hp t cL).1⟩
  | ret =>
   have hc : Cz [] 12 (bQ .ret) (dE [] .ret) := a8 (by rfl) (by simp) (ak (bO (by tm_at "dk")) aZ)
   exact ⟨⟨hc.1, hc.2⟩, trivial⟩
def Ci {F : bC} (hF : nR F) {a b : Ty} (ha : ia a) (hb : ia b) : ∀ bl ∈ (fD F).bs, xW (a9 a b) ((fD F).Ls.map (plainT (a9 a b))) 40 bl := fun bl iJ => by
 have hm := qD hF iJ
 have hr := hm.rows hF
 have hl : (fD F).Ls.map (plainT (a9 a b)) = iA a b := jR ha hb
 have tl := ky ha hb
 have dA : deep (a9 a b) (.par (oS "A")) <= 40 := by have := (tl _ (List.mem_of_getElem? (i := 1) rfl)).2.2; tm_at "o"
 have K4 : deep (a9 a b) (.bP (.par (oS "A")) (.i (oS "i32"))) <= 40 := by have := (tl _ (List.mem_of_getElem? (i := 4) rfl)).2.2; tm_at "o"
 have K5 : deep (a9 a b) (.bU (some (oS "'z")) (.par (oS "A"))) <= 40 := by have := (tl _ (List.mem_of_getElem? (i := 6) rfl)).2.2; exact Nat.le_trans this (by tm_at "o")
 have d0 : ∀ n, deep (a9 a b) (.i n) <= 40 := fun n => by (dsimp only [deep, bh, ht]; simp)
 have dn : ∀ n, da (a9 a b) (vQ n) <= 40 := fun n => d0 _
 have d1 : ∀ p, da (a9 a b) (.copy p) <= 40 := fun p => Nat.zero_le _
 have d2 : ∀ p, da (a9 a b) (.move p) <= 40 := fun p => Nat.zero_le _
 refine ⟨fun r K6 => ?_, by have := hr.n; tm_at "o", ?_⟩
 .rcases hr.each r K6 with ⟨kd, hk, rfl⟩ | ⟨n, hn⟩
  .trivial
  ·(dsimp only [dy] at hn; simp only [List.mem_cons, List.not_mem_nil, or_false] at hn)
   have two : ∀ o1 o2 : oJ, da (a9 a b) o1 <= 40 -> da (a9 a b) o2 <= 40 -> ∀ o ∈ [o1, o2], da (a9 a b) o <= 40 := fun o1 o2 h1 h2 o ho => by
    simp only [List.mem_cons, List.not_mem_nil, or_false] at ho
    rcases ho with rfl | rfl
    .exact h1
    .exact h2
   rcases hn with rfl | rfl | rfl | rfl | rfl | rfl | rfl | rfl | rfl | rfl | rfl
   .exact ⟨two _ _ (d1 _) (dn _), by simp⟩
   .exact dn _
   .trivial
   .trivial
   .exact d2 _
   .exact ⟨K5, List.forall_mem_singleton.mpr (d1 _), by simp⟩
   .exact ⟨two _ _ (dn _) (d1 _), by simp, by simp⟩
   .exact d1 _
   .exact ⟨two _ _ (d1 _) (d1 _), by simp⟩
   .exact ⟨dn _, d0 _⟩
   .exact K4
 .rw [hl]
  induction hm with
  | call =>
   k_dflt obtain ⟨s1, s2, s3, s4, s5, s6, s7⟩ := fG (a := a) hb hF.sec
   refine ⟨⟨by simp, fun t cL => ?_, ?_⟩, by simp, fun o ho => ?_⟩
   .cases List.mem_singleton.mp cL
    exact ⟨s4, by tm_at "o", by tm_at "o", by tm_at "o"⟩
   .refine eI (by tm_at "dk") (by simp) (fun t cL => ?_) (by tm_at "o")
    cases List.mem_singleton.mp cL
    rw [s1]
    exact ⟨s2.cl, by have := s2.ht; tm_at "o"⟩
   .cases List.mem_singleton.mp ho; exact d1 _
  | ym => exact ⟨by (dsimp only [da, deep, bh, ht]; simp), by simp, by simp⟩
  | drop _ h1 h5 =>
   k_dflt obtain ⟨T, e1, e2, e3, e4, e5⟩ := Ad ha hb h1 h5
   exact ⟨by tm_at "o", by tm_at "o", T, e1, e2, by tm_at "o", e4, e5⟩
  | ret => trivial
def Cj {P : Params} {F : bC} {c : Ty} (hc : sj c) : ∀ bl ∈ (gD F P).bs, xW (eH c) ((gD F P).Ls.map (plainT (eH c))) 40 bl := fun bl iJ => by
 have hl : (gD F P).Ls.map (plainT (eH c)) = lI c := pd hc
 have hh := hc.ht
 refine hl ▸ ?_
 (dsimp only [gD] at iJ; simp only [List.mem_cons, List.not_mem_nil, or_false] at iJ)
 rcases iJ with rfl | rfl
 .have c2 : Cl (.bP c .bool) := ⟨hc.cl, trivial⟩
  have h4 : ht (.bP c .bool) <= 4 := by dsimp only [ht]; tm_at "o"
  refine ⟨(List.forall_mem_nil _), by simp, by tm_at "o", by tm_at "o", .bP c .bool, rfl, dB c2, by tm_at "o", ?_, fun hb => A5 c2 (by tm_at "o") ?_⟩
  .have := qm (.bP c .bool)
   have := size_le h4
   have e : (2 : Nat) ^ (4 + 1) = 32 := rfl
   tm_at "o"
  .have EG : aQ c = true := (Bool.or_false _).symm.trans hb
   have := hc.box EG
   dsimp only [le]; tm_at "o"
 .exact ⟨(List.forall_mem_nil _), by simp, trivial⟩
def pe {P : Params} {e : Addr} {cs : List (Str × List Ty)} (h : gf cs) : ∀ bl ∈ (cF e P cs).bs, xW [] ((cF e P cs).Ls.map (plainT [])) 40 bl := fun bl iJ => by
 cases dR iJ with
 | @call c k hc =>
  obtain ⟨p1, p2, p3, p4⟩ := h.each c hc
  refine ⟨(List.forall_mem_nil _), by simp, ⟨by tm_at "o", fun t cL => ?_, eI p2 (by simp; tm_at "o") (la h hc) (by tm_at "o")⟩, by simp, List.forall_mem_nil _⟩
  obtain ⟨q1, q2⟩ := p4 t cL
  k_dflt obtain ⟨f1, f2, f3, f4, f5⟩ := ib q1 q2
  rw [f3]
  exact ⟨f4, by tm_at "o", by tm_at "o", by tm_at "o"⟩
 | ret => exact ⟨(List.forall_mem_nil _), by simp, trivial⟩
end
section
noncomputable def bq (tab : List (Str × Ty)) : List eC -> List eN
 | [] => []
 | b :: bs => (match b.2 with | .call path ts _ _ _ => [(path, ts.map (plainT tab))] | _ => []) ++ bq tab bs
def qE (tab : List (Str × Ty)) (bs : List eC) : ba tab bs = (bq tab bs).map cx := by
 induction bs with
 | nil => rfl
 | cons b bs ih =>
  obtain ⟨rs, tm⟩ := b
  (dsimp only [ba, bq]; simp only [List.map_append, ih])
  induction tm <;> rfl
noncomputable def mW : List Str -> List eN -> List eN -> List eN
 | _, wait, [] => wait
 | ks, wait, j :: js => mW (fB ks j) (hN ks wait j) js
noncomputable def mX : List Str -> List eN -> List Str
 | ks, [] => ks
 | ks, j :: js => mX (fB ks j) js
def yo (tab : List (Str × Ty)) : ∀ (bs : List eC) (ks : List Str) (wait : List eN), qp tab ks wait bs = mW ks wait (bq tab bs) /\ qr tab ks bs = mX ks (bq tab bs) := by
 intro bs; induction bs with
 | nil => intro _ _; exact ⟨rfl, rfl⟩
 | cons b bs ih =>
  intro ks wait
  obtain ⟨rs, tm⟩ := b
  induction tm <;> exact ih _ _
def t8 : ∀ (js : List eN) (ks : List Str) (wait : List eN), ks.Nodup -> ∃ new : List eN, mW ks wait js = wait ++ new /\ mX ks js = ks ++ new.map cx /\ (∀ j ∈ new, j ∈ js) /\ (∀ j ∈ js, cx j ∈ ks ++ new.map cx) /\ new.Sublist js /\ (ks ++ new.map cx).Nodup := by
 intro js; induction js with
 | nil => intro ks wait nd; exact ⟨[], by (dsimp only [mW]; simp), by (dsimp only [mX]; simp), by simp, by simp, by simp, by simpa using nd⟩
 | cons j js ih =>
  intro ks wait nd
  by_cases h : cx j ∈ ks
  .k_dflt obtain ⟨new, h1, h2, h3, h4, h5, h6⟩ := ih ks wait nd
   have hk : fB ks j = ks := if_pos h
   have hw : hN ks wait j = wait := if_pos h
   refine ⟨new, by (dsimp only [mW]; simp only [hk, hw, h1]), by (dsimp only [mX]; simp only [hk, h2]), fun z hz => .tail _ (h3 z hz), fun z hz => ?_, h5.cons _, h6⟩
   rcases List.mem_cons.mp hz with rfl | hz
   .exact List.mem_append_left _ h
   .exact h4 z hz
  .have hk : fB ks j = ks ++ [cx j] := if_neg h
   have hw : hN ks wait j = wait ++ [j] := if_neg h
   have dg : (ks ++ [cx j]).Nodup := List.nodup_append.mpr ⟨nd, by simp, fun a ha b hb e => by cases List.mem_singleton.mp hb; exact h (e ▸ ha)⟩
   k_dflt obtain ⟨new, h1, h2, h3, h4, h5, h6⟩ := ih (ks ++ [cx j]) (wait ++ [j]) dg
   refine ⟨j :: new, by (dsimp only [mW]; simp only [hk, hw, h1, List.append_assoc]); rfl, by (dsimp only [mX]; simp only [hk, h2, List.append_assoc]); rfl, fun z hz => ?_, fun z hz => ?_, h5.cons_cons _, by simpa using h6⟩
   .rcases List.mem_cons.mp hz with rfl | hz
    .exact .head _
    .exact .tail _ (h3 z hz)
   .rcases List.mem_cons.mp hz with rfl | hz
    .simp
    .simpa using h4 z hz
noncomputable abbrev pl (T : Ty) : Ty := plainT [] T
noncomputable def qF (path : Str) : List Str := if path = (oS "f") then [oS "A", oS "B"] else if path = (oS "g") then [oS "T"] else []
noncomputable def DJ (P : Params) (F : bC) (e : Addr) (cs : List (Str × List Ty)) (path : Str) : BD := if path = (oS "f") then fD F else if path = (oS "g") then gD F P else cF e P cs
noncomputable abbrev callsOf (ps : List (Ty × Ty)) : List (Str × List Ty) := ps.map fun p => (oS "f", [p.1, p.2])
structure Pairs (ps : List (Ty × Ty)) : Prop where
 n : ps.length <= 3
 each : ∀ p ∈ ps, (Drawn p.1 /\ ht p.1 <= 2) /\ Drawn p.2 /\ ht p.2 <= 2
inductive dF (F : bC) (ps : List (Ty × Ty)) : eN -> Prop
 | main : dF F ps (oS "main", [])
 | f {p} : p ∈ ps -> dF F ps (oS "f", [pl p.1, pl p.2])
 | g {p} : p ∈ ps -> dF F ps (oS "g", [nU F.sec (pl p.2)])
def mY : qF (oS "f") = [oS "A", oS "B"] := if_pos rfl
def yp : qF (oS "g") = [oS "T"] := by unfold qF; rfl
def ic : qF (oS "main") = [] := by unfold qF; rfl
section
variable {P : Params} {F : bC} {e : Addr} {cs : List (Str × List Ty)} {ps : List (Ty × Ty)}
def t9 : DJ P F e cs (oS "f") = fD F := if_pos rfl
def yq : DJ P F e cs (oS "g") = gD F P := by unfold DJ; rfl
def iB : DJ P F e cs (oS "main") = cF e P cs := by unfold DJ; rfl
def Pairs.main (h : Pairs ps) : gf (callsOf ps) := by
 refine ⟨by have := h.n; simp; tm_at "o", fun c hc => ?_⟩
 obtain ⟨p, hp, rfl⟩ := List.mem_map.mp hc
 obtain ⟨h1, h2⟩ := h.each p hp
 refine ⟨show PyData.strOk (oS "f") = true by decide +kernel, show (oS "f").length <= 1000 by decide +kernel, by simp, fun t cL => ?_⟩
 simp only [List.mem_cons, List.not_mem_nil, or_false] at cL
 rcases cL with rfl | rfl
 .exact h1
 .exact h2
def Pairs.fst (h : Pairs ps) {p : Ty × Ty} (hp : p ∈ ps) : ia (pl p.1) := (ib (h.each p hp).1.1 (h.each p hp).1.2).1
def Pairs.snd (h : Pairs ps) {p : Ty × Ty} (hp : p ∈ ps) : ia (pl p.2) := (ib (h.each p hp).2.1 (h.each p hp).2.2).1
def Ae (hF : nR F) {b : Ty} (hb : ia b) : sj (nU F.sec b) := (fG (a := b) hb hF.sec).2.1
def dF.is (hF : nR F) (h : Pairs ps) {j : eN} (hj : dF F ps j) : o8 j := by
 induction hj with
 | main => exact .main
 | f hp => exact .f (h.fst hp).cl (h.snd hp).cl
 | g hp => exact .g (Ae hF (h.snd hp)).cl
def mZ (tab : List (Str × Ty)) (xs ys : List eC) : bq tab (xs ++ ys) = bq tab xs ++ bq tab ys := by
 induction xs with
 | nil => rfl
 | cons b xs ih => (dsimp only [List.cons_append, bq]; rw [ih, List.append_assoc])
theorem jS (tab : List (Str × Ty)) : ∀ (de : List (List Row)) (j : Int), bq tab (bJ j de) = []
 | [], _ => rfl
 | r :: de, j => by (dsimp only [bJ, bq]; simp only [jS tab de]); rfl
def qG (hF : nR F) {a b : Ty} (hb : ia b) : bq (a9 a b) (fD F).bs = [(oS "g", [nU F.sec b])] := by
 show bq (a9 a b) (dY F.rs F.sec F.de ++ [(([], Mine.Term.ret) : eC)]) = _
 rw [mZ]
 show ((oS "g", [plainT (a9 a b) F.sec]) :: bq (a9 a b) (bJ 1 F.de)) ++ [] = _
 rw [jS, (fG (a := a) hb hF.sec).1]; rfl
def m3 : bq [] (cF e P cs).bs = cs.map fun c => (c.1, c.2.map pl) := by
 show bq [] (cS cs) = _
 dsimp only [cS]
 rw [mZ]
 have h : ∀ (cs : List (Str × List Ty)) (i : Int), bq [] ((hW i cs).map fun p => (([], i7 p.2 (p.1 + 1)) : eC)) = cs.map fun c => (c.1, c.2.map pl) := by
  intro cs
  induction cs with
  | nil => intro i; rfl
  | cons c cs ih => intro i; dsimp only [hW, List.map, bq]; rw [ih]; rfl
 rw [h]; exact List.append_nil _
end
noncomputable def wJ (j : eN) : Nat := if j.1 = (oS "f") then 2 else if j.1 = (oS "g") then 1 else 7
noncomputable def wsum (js : List eN) : Nat := (js.map wJ).sum
theorem Ee (ts) : wJ (oS "f", ts) = 2 := if_pos rfl
def Hc (ts) : wJ (oS "g", ts) = 1 := by unfold wJ; rfl
def Af (ts) : wJ (oS "main", ts) = 7 := by unfold wJ; rfl
def Ck (j : eN) : 1 <= wJ j := by unfold wJ; split <;> (try split) <;> tm_at "o"
def sq (xs ys : List eN) : wsum (xs ++ ys) = wsum xs + wsum ys := by (dsimp only [wsum]; simp)
def sC (xs : List eN) : xs.length <= wsum xs := by
 induction xs with
 | nil => exact Nat.zero_le _
 | cons j xs ih => have := Ck j; (dsimp only [wsum] at ih ⊢; simp only [List.map_cons, List.sum_cons, List.length_cons] at ih ⊢); tm_at "o"
def yr {xs ys : List eN} (h : xs.Sublist ys) : wsum xs <= wsum ys := by
 induction h with
 | slnil => exact Nat.le_refl _
 | cons j _ ih => (dsimp only [wsum] at ih ⊢; simp only [List.map_cons, List.sum_cons] at ih ⊢); tm_at "o"
 | cons_cons j _ ih => (dsimp only [wsum] at ih ⊢; simp only [List.map_cons, List.sum_cons] at ih ⊢); tm_at "o"
noncomputable abbrev gE (j : eN) : List (Str × Ty) := (qF j.1).zip j.2
noncomputable abbrev A6 (P : Params) (F : bC) (e : Addr) (cs : List (Str × List Ty)) (j : eN) : Str × AV := (cx j, fg P (cx j) (gE j) (DJ P F e cs j.1))
noncomputable abbrev cI (P : Params) (F : bC) (e : Addr) (cs : List (Str × List Ty)) (j : eN) : List eN := bq (gE j) (DJ P F e cs j.1).bs
structure yt (P : Params) (F : bC) (e : Addr) (ps : List (Ty × Ty)) (k : Nat) (made : List (Str × AV)) (wait : List eN) (ks : List Str) (done : List eN) : Prop where
 yQ : made = done.map (A6 P F e (callsOf ps))
 kj : ks = (done ++ wait).map cx
 nd : ks.Nodup
 each : ∀ j ∈ done ++ wait, dF F ps j
 calls : ∀ j ∈ done, ∀ c ∈ cI P F e (callsOf ps) j, cx c ∈ ks
 main : (oS "main", []) ∈ done ++ wait
 w : done.length + wsum wait <= 7
 kw : k = wsum wait
section
variable {P : Params} {F : bC} {e : Addr} {ps : List (Ty × Ty)}
def kz (hF : nR F) (h : Pairs ps) {j : eN} (hj : dF F ps j) : (∀ c ∈ cI P F e (callsOf ps) j, dF F ps c) /\ wsum (cI P F e (callsOf ps) j) + 1 <= wJ j := by
 induction hj with
 | main =>
  have e0 : cI P F e (callsOf ps) (oS "main", []) = ps.map fun p => (oS "f", [pl p.1, pl p.2]) := by
   show bq ((qF (oS "main")).zip []) (DJ P F e (callsOf ps) (oS "main")).bs = _
   rw [iB, ic]
   show bq [] _ = _
   rw [m3, List.map_map]; rfl
  rw [e0, Af]
  refine ⟨fun c hc => ?_, ?_⟩
  .obtain ⟨p, hp, rfl⟩ := List.mem_map.mp hc
   exact .f hp
  .have : ∀ qs : List (Ty × Ty), wsum (qs.map fun p => (oS "f", [pl p.1, pl p.2])) = 2 * qs.length := by
    intro qs
    induction qs with
    | nil => rfl
    | cons q qs ih => (dsimp only [wsum] at ih ⊢; simp only [List.map_cons, List.sum_cons, Ee, List.length_cons] at ih ⊢); tm_at "o"
   rw [this]; have := h.n; tm_at "o"
 | @f p hp =>
  have e0 : cI P F e (callsOf ps) (oS "f", [pl p.1, pl p.2]) = [(oS "g", [nU F.sec (pl p.2)])] := by
   show bq ((qF (oS "f")).zip _) (DJ P F e (callsOf ps) (oS "f")).bs = _
   rw [t9, mY]
   exact qG hF (h.snd hp)
  rw [e0, Ee]
  refine ⟨fun c hc => ?_, ?_⟩
  .cases List.mem_singleton.mp hc; exact .g hp
  .dsimp only [wsum]; tm_at "o"
 | @g p hp =>
  have e0 : cI P F e (callsOf ps) (oS "g", [nU F.sec (pl p.2)]) = [] := by
   show bq ((qF (oS "g")).zip _) (DJ P F e (callsOf ps) (oS "g")).bs = _
   rw [yq, yp]; rfl
  rw [e0, Hc]
  exact ⟨List.forall_mem_nil _, by (dsimp only [wsum]; simp)⟩
def Hd : yt P F e ps 7 [] [(oS "main", [])] [oS "main"] [] where
 yQ := rfl
 kj := rfl
 nd := by simp
 each := List.forall_mem_singleton.mpr .main
 calls := List.forall_mem_nil _
 main := .head _
 w := by dsimp only [wsum]; tm_at "o"
 kw := by (dsimp only [wsum]; rfl)
def yu (hF : nR F) (h : Pairs ps) {k : Nat} {made : List (Str × AV)} {j : eN} {rest done : List eN} {ks : List Str} (r : yt P F e ps k made (j :: rest) ks done) :
  ∃ k', k' < k /\ yt P F e ps k' (bN made (cx j) (fg P (cx j) (gE j) (DJ P F e (callsOf ps) j.1))) (qp (gE j) ks rest (DJ P F e (callsOf ps) j.1).bs) (qr (gE j) ks (DJ P F e (callsOf ps) j.1).bs) (done ++ [j]) := by
 k_dflt obtain ⟨e1, e2⟩ := yo (gE j) (DJ P F e (callsOf ps) j.1).bs ks rest
 have hj := r.each j (by simp)
 obtain ⟨c1, c2⟩ := kz (P := P) (e := e) hF h hj
 k_dflt obtain ⟨new, h1, h2, h3, h4, h5, h6⟩ := t8 (cI P F e (callsOf ps) j) ks rest r.nd
 refine e1 ▸ e2 ▸ ?_
 replace h1 : mW ks rest (bq (gE j) (DJ P F e (callsOf ps) j.1).bs) = rest ++ new := h1
 replace h2 : mX ks (bq (gE j) (DJ P F e (callsOf ps) j.1).bs) = ks ++ new.map cx := h2
 refine h1 ▸ h2 ▸ ?_
 have hw := yr h5
 have pD : cx j ∉ made.map (·.1) := by
  have nd := r.nd
  rw [r.kj, List.map_append, List.map_cons] at nd
  rw [r.yQ, List.map_map]
  intro hm
  exact (List.nodup_append.mp nd).2.2 _ hm _ (.head _) rfl
 have rk := r.kw
 have GR := r.w
 have K7 : wsum (j :: rest) = wJ j + wsum rest := by (dsimp only [wsum]; rfl)
 rw [K7] at rk GR
 refine ⟨wsum (rest ++ new), by rw [sq]; tm_at "o", ?_, ?_, h6, ?_, ?_, ?_, ?_, rfl⟩
 .rw [gb pD, r.yQ, List.map_append]; rfl
 .rw [r.kj]; simp
 .intro z hz
  simp only [List.mem_append, List.mem_cons, List.not_mem_nil, or_false] at hz
  rcases hz with (hz | rfl) | hz | hz
  .exact r.each z (by simp [hz])
  .exact hj
  .exact r.each z (by simp [hz])
  .exact c1 z (h3 z hz)
 .intro z hz c hc
  rcases List.mem_append.mp hz with hz | hz
  .exact List.mem_append_left _ (r.calls z hz c hc)
  .cases List.mem_singleton.mp hz
   exact h4 c hc
 .have := r.main
  simp only [List.mem_append, List.mem_cons, List.not_mem_nil, or_false] at this ⊢
  rcases this with a | a | a
  .exact .inl (.inl a)
  .exact .inl (.inr a)
  .exact .inr (.inl a)
 .rw [sq, List.length_append, List.length_singleton]; tm_at "o"
structure Found (P : Params) (F : bC) (e : Addr) (ps : List (Ty × Ty)) (made : List (Str × AV)) (done : List eN) : Prop where
 yQ : made = done.map (A6 P F e (callsOf ps))
 nd : (done.map cx).Nodup
 each : ∀ j ∈ done, dF F ps j
 all : ∀ j, dF F ps j -> j ∈ done
 n : done.length <= 7
def Ag (hF : nR F) (h : Pairs ps) {k : Nat} {made : List (Str × AV)} {ks : List Str} {done : List eN} (r : yt P F e ps k made [] ks done) : Found P F e ps made done := by
 have He := r.kj
 have he := r.each
 have hm := r.main
 have nd := r.nd
 rw [List.append_nil] at He he hm
 have back : ∀ j, dF F ps j -> cx j ∈ ks -> j ∈ done := fun j hj hk => by
  rw [He] at hk
  obtain ⟨z, hz, e⟩ := List.mem_map.mp hk
  refine (z0 ((he z hz).is hF h) (hj.is hF h) e) ▸ ?_; exact hz
 have hf : ∀ p ∈ ps, (oS "f", [pl p.1, pl p.2]) ∈ done := fun p hp => by
  refine back _ (.f hp) (r.calls _ hm _ ?_)
  show _ ∈ bq ((qF (oS "main")).zip []) (DJ P F e (callsOf ps) (oS "main")).bs
  rw [iB, ic]
  show _ ∈ bq [] _
  rw [m3, List.map_map]
  exact List.mem_map_of_mem (f := (fun c : Str × List Ty => (c.1, c.2.map pl)) ∘ fun p : Ty × Ty => (oS "f", [p.1, p.2])) hp
 refine ⟨r.yQ, He ▸ nd, he, fun j hj => ?_, by have := r.w; tm_at "o"⟩
 induction hj with
 | main => exact hm
 | f hp => exact hf _ hp
 | @g p hp =>
  refine back _ (.g hp) (r.calls _ (hf p hp) _ ?_)
  show _ ∈ bq ((qF (oS "f")).zip _) (DJ P F e (callsOf ps) (oS "f")).bs
  rw [t9, mY]
  show _ ∈ bq (a9 (pl p.1) (pl p.2)) (fD F).bs
  rw [qG hF (h.snd hp)]
  exact .head _
end
end
section
structure yw (P : Params) (bE : List (Str × AV)) (F : bC) (e : Addr) (cs : List (Str × List Ty)) : Prop where
 f : bH bE (oS "f") = some (bw P (fD F))
 g : bH bE (oS "g") = some (bw P (gD F P))
 main : bH bE (oS "main") = some (bw P (cF e P cs))
theorem dF.wait {F : bC} {ps : List (Ty × Ty)} (hF : nR F) (h : Pairs ps) {j : eN} (hj : dF F ps j) : hO j := by
 induction hj with
 | main => exact df (by tm_at "dk") (by simp) (List.forall_mem_nil _)
 | f hp =>
  exact df (by tm_at "dk") (by simp) fun t cL => by
   simp only [List.mem_cons, List.not_mem_nil, or_false] at cL
   rcases cL with rfl | rfl
   .exact (h.fst hp).cl
   .exact (h.snd hp).cl
 | g hp =>
  exact df (by tm_at "dk") (by simp) fun t cL => by
   cases List.mem_singleton.mp cL
   exact (Ae hF (h.snd hp)).cl
def Ah (ok : Ok G) (ft : cb G) {bE : List (Str × AV)} {F : bC} {e : Addr} {ps : List (Ty × Ty)} (hF : nR F) (h : Pairs ps) (hb : yw G.w.params bE F e (callsOf ps)) (hR : aj A (n + 120))
  (q : ∀ made done, Found G.w.params F e ps made done -> Q (ar G.w.params made) Γ) : WC G A X (.ref 465) [bR G.w.params, ar G.w.params bE, .str (oS "main")] Γ Q := by
 refine instances ok (bM := []) (h := 40) (j := 110) (fun k made wait ks => ∃ done, yt G.w.params F e ps k made wait ks done) (k0 := 7) (fun _ => ⟨[], Hd⟩) ?_ ?_ (by rw [hb.main]; rfl) (Nat.le_refl _) (by tm_at "o") (by exact aj.le hR (by tm_at "o")) fun k1 made ks zz => (by obtain ⟨done, r⟩ := zz; exact q made done (Ag hF h r))
 .rintro k made wait ks ⟨done, r⟩
  have hw := r.w
  have hl := sC wait
  refine ⟨fun p hp => (r.each p (List.mem_append_right _ hp)).wait hF h, ?_, by tm_at "o", ?_⟩
  .rw [r.kj, List.length_map, List.length_append]; tm_at "o"
  .rw [r.yQ, List.length_map]; tm_at "o"
 .rintro k made path ts rest ks ⟨done, r⟩
  have hj := r.each (path, ts) (by simp)
  refine An (qF path) (DJ G.w.params F e (callsOf ps) path) ⟨?_, fun _ _ => ?_⟩
  .cases hj with
   | main =>
    rw [ic, iB]
    have hm := h.main
    refine ⟨by rfl, by simp, by simp, by decide +kernel, hb.main, fun _ => ⟨.inl ft, fun T hT => ?_, by show (1 : Nat) <= 60; decide, pe hm, by have := mV hm; show (cS _).length <= 60; tm_at "o", fun b iJ => ?_⟩, fun iG => absurd rfl iG⟩
    .cases List.mem_singleton.mp hT; decide
    .cases dR iJ with
     | ret => trivial
     | @call c k hc =>
      obtain ⟨p, hp, rfl⟩ := List.mem_map.mp hc
      have hd := h.each p hp
      refine ⟨fun t cL hz => ?_, fun hn => ?_⟩
      .exfalso
       simp only [List.mem_cons, List.not_mem_nil, or_false] at cL
       rcases cL with rfl | rfl
       .obtain ⟨_, _, e1, _, e2⟩ := ib hd.1.1 hd.1.2
        have e3 : bh ([] : List (Str × Ty)) p.1 = p.1 := e1
        rw [show ([] : List Str).zip ([] : List Ty) = [] from rfl, e3] at hz; tm_at "o"
       .obtain ⟨_, _, e1, _, e2⟩ := ib hd.2.1 hd.2.2
        have e3 : bh ([] : List (Str × Ty)) p.2 = p.2 := e1
        rw [show ([] : List Str).zip ([] : List Ty) = [] from rfl, e3] at hz; tm_at "o"
      .rw [show bH bE (oS "f") = _ from hb.f] at hn; cases hn
   | @f p hp =>
    rw [mY, t9]
    have ha := h.fst hp
    have Hf := h.snd hp
    refine ⟨by rfl, by simp, by decide +kernel, by decide +kernel, hb.f, fun _ => ⟨.inl ft, fun T hT => ?_, by show (10 : Nat) <= 60; decide, Ci hF ha Hf, by rw [yn hF]; tm_at "o", fun b iJ => ?_⟩, fun iG => absurd rfl iG⟩
    .have := (ky ha Hf T hT).2.2
     show deep (a9 _ _) T <= 40
     tm_at "o"
    .cases qD hF iJ with
     | call =>
      refine ⟨fun t cL hz => ?_, fun hn => ?_⟩
      .exfalso
       cases List.mem_singleton.mp cL
       have := (fG (a := pl p.1) Hf hF.sec).2.2.2.2.1
       have e3 : aV (bh (a9 (pl p.1) (pl p.2)) F.sec) <= 20 := this
       change 120 < aV (bh (a9 (pl p.1) (pl p.2)) F.sec) at hz
       tm_at "o"
      .rw [show bH bE (oS "g") = _ from hb.g] at hn; cases hn
     | ym => trivial
     | drop => trivial
     | ret => trivial
   | @g p hp =>
    rw [yp, yq]
    have hc := Ae hF (h.snd hp)
    refine ⟨by rfl, by simp, by decide +kernel, by decide +kernel, hb.g, fun _ => ⟨.inl ft, fun T hT => ?_, by show (2 : Nat) <= 60; decide, Cj hc, by show (2 : Nat) <= 60; decide, fun b iJ => ?_⟩, fun iG => absurd rfl iG⟩
    .have hh := hc.ht
     have e1 : bh (eH (nU F.sec (pl p.2))) (.par (oS "T")) = nU F.sec (pl p.2) := Ed _
     show deep (eH _) T <= 40
     (dsimp only [gD] at hT; simp only [List.mem_cons, List.not_mem_nil, or_false] at hT)
     rcases hT with rfl | rfl
     ·(dsimp only [deep, bh, ht]; simp)
     .show max (max 0 0 + 1) (max (ht (bh _ _)) 0 + 1) <= 40
      rw [e1]; tm_at "o"
    ·(dsimp only [gD] at iJ; simp only [List.mem_cons, List.not_mem_nil, or_false] at iJ)
     rcases iJ with rfl | rfl <;> trivial
  .k_dflt obtain ⟨k', h1, h2⟩ := yu hF h r
   exact ⟨k', h1, _, h2⟩
end
section
noncomputable def bL : Nat -> Ty
 | 0 => .i (oS "i32")
 | j + 1 => .bP (bL j) (bL j)
theorem gg : ∀ j, Cl (bL j)
 | 0 => rfl
 | j + 1 => ⟨gg j, gg j⟩
theorem jT : ∀ j, ht (bL j) = j
 | 0 => rfl
 | j + 1 => by show max (ht (bL j)) (ht (bL j)) + 1 = _; rw [jT j]; tm_at "o"
theorem pg : ∀ j, aV (bL j) + 1 = 2 ^ (j + 1)
 | 0 => rfl
 | j + 1 => by show aV (bL j) + aV (bL j) + 1 + 1 = _; have := pg j; rw [Nat.pow_succ]; tm_at "o"
def yx {i j : Nat} (h : bL i = bL j) : i = j := by exact (jT i) ▸ (jT j) ▸ h ▸ rfl
def yy (t : Ty) : codes (cf (oS "h") [t]) = 104 :: 60 :: (txt t ++ [62]) := by
 show codes ((oS "h") ++ (oS "<") ++ Str.join (oS ", ") [aq t] ++ (oS ">")) = _
 have e : Str.join (oS ", ") [aq t] = aq t := rfl
 rw [e, aH, aH, aH]
 have h1 : codes (oS "h") = [104] := by decide +kernel
 have h3 : codes (oS ">") = [62] := by decide +kernel
 have h4 : codes (oS "<") = [60] := by decide +kernel
 refine h1 ▸ h3 ▸ h4 ▸ ?_
 (dsimp only [txt]; rfl)
def yz {i j : Nat} (h : cf (oS "h") [bL i] = cf (oS "h") [bL j]) : i = j := by
 have e := congrArg codes h
 rw [yy, yy] at e
 simp only [List.cons.injEq, true_and] at e
 exact yx (lH (gg i) (gg j) e).1
def i9 (t : Ty) : cf (oS "h") [t] ≠ (oS "main") := fun h => by
 have e := congrArg codes h
 have h2 : codes (oS "main") = [109, 97, 105, 110] := by decide +kernel
 rw [yy, h2] at e
 simp at e
noncomputable def gh (j : Nat) : List Str := (oS "main") :: (List.range (j + 1)).map fun i => cf (oS "h") [bL i]
theorem ua (j : Nat) : (gh j).length = j + 2 := by (dsimp only [gh]; simp)
def jU (j : Nat) : cf (oS "h") [bL (j + 1)] ∉ gh j := fun h => by
 rcases List.mem_cons.mp h with h | h
 .exact i9 _ h
 .obtain ⟨i, hi, e⟩ := List.mem_map.mp h
  have := yz e
  rw [List.mem_range] at hi; tm_at "o"
def sD (j : Nat) : gh j ++ [cf (oS "h") [bL (j + 1)]] = gh (j + 1) := by
 (dsimp only [gh]; simp only [List.range_succ (n := j + 1), List.map_append, List.cons_append, List.map_cons, List.map_nil])
noncomputable def uU : Term := .call (oS "h") [.bP (.par (oS "T")) (.par (oS "T"))] [] (place 0) 1
noncomputable def hD (e : Addr) (P : Params) : BD := ⟨0, e, ar P [], .str (oS "h"), [.dj], [([], uU), ([], .ret)]⟩
noncomputable def m5 (c : Ty) : List (Str × Ty) := [(oS "T", c)]
def Ai : gf [(oS "h", [.i (oS "i32")])] := ⟨by simp, fun c hc => by
 cases List.mem_singleton.mp hc
 exact ⟨by decide +kernel, by decide +kernel, by simp, List.forall_mem_singleton.mpr ⟨rfl, by simp [ht]⟩⟩⟩
def Aj : gf [(oS "none", [])] := ⟨by simp, fun c hc => by
 cases List.mem_singleton.mp hc
 exact ⟨by decide +kernel, by decide +kernel, by simp, List.forall_mem_nil _⟩⟩
def Cm : gf [(oS "f", [.i (oS "i32")])] := ⟨by simp, fun c hc => by
 cases List.mem_singleton.mp hc
 exact ⟨by decide +kernel, by decide +kernel, by simp, List.forall_mem_singleton.mpr ⟨rfl, by simp [ht]⟩⟩⟩
def sE {e : Addr} {P : Params} {cs : List (Str × List Ty)} : ∀ b ∈ (cF e P cs).bs, ∀ at' k', b.2 ≠ .drop at' k' := fun b hb at' k' h => by
 cases dR hb <;> contradiction
def kA : hO (oS "main", []) := df (by tm_at "dk") (by simp) (List.forall_mem_nil _)
def ja {bM : aa} {bE : List (Str × AV)} {e : Addr} {cs : List (Str × List Ty)} (h : gf cs) (hb : bH bE (oS "main") = some (bw G.w.params (cF e G.w.params cs))) (hx : ∀ b ∈ (cF e G.w.params cs).bs, B3 G A X bM Γ bE [] b.2) :
  Ready G A X bM Γ bE (oS "main") [] [] (cF e G.w.params cs) 40 :=
 ⟨by rfl, by simp, by simp, by decide +kernel, hb, fun _ => ⟨.inr sE, fun T hT => by cases List.mem_singleton.mp hT; decide, by show (1 : Nat) <= 60; decide, pe h, by have := mV h; show (cS _).length <= 60; tm_at "o", hx⟩, fun iG => absurd rfl iG⟩
def ph (c : Ty) : bh (m5 c) (.bP (.par (oS "T")) (.par (oS "T"))) = .bP c c := by rfl
def sG {c : Ty} (h : Cl c) : plainT (m5 c) (.bP (.par (oS "T")) (.par (oS "T"))) = .bP c c := by
 show bB (bh _ _) = _
 rw [ph]
 exact eG (T := .bP c c) ⟨h, h⟩
def yA (ok : Ok G) {bE : List (Str × AV)} {e e' : Addr} (hm : bH bE (oS "main") = some (bw G.w.params (cF e G.w.params [(oS "h", [.i (oS "i32")])]))) (hh : bH bE (oS "h") = some (bw G.w.params (hD e' G.w.params))) (hR : aj A (n + 120)) {bM : aa} (hx : RX G A X bM Γ) :
  WC G A X (.ref 465) [bR G.w.params, ar G.w.params bE, .str (oS "main")] Γ Q := by
 refine instances ok (bM := bM) (h := 40) (j := 110) (fun k made wait ks => (k = 9 /\ made = [] /\ wait = [(oS "main", [])] /\ ks = [oS "main"]) \/ ∃ j, j <= 5 /\ k = 8 - j /\ wait = [(oS "h", [bL j])] /\ ks = gh j /\ made.length <= j + 1) (k0 := 9) (fun _ => .inl ⟨rfl, rfl, rfl, rfl⟩) ?_ ?_ (by rw [hm]; rfl) (Nat.le_refl _) (by tm_at "o") (by exact aj.le hR (by tm_at "o")) fun k1 made ks hI => ?_
 .rintro k made wait ks (⟨rfl, rfl, rfl, rfl⟩ | ⟨j, h1, rfl, rfl, rfl, h2⟩)
  .exact ⟨List.forall_mem_singleton.mpr kA, by simp, by simp, by simp⟩
  .exact ⟨List.forall_mem_singleton.mpr (df (by tm_at "dk") (by simp) (List.forall_mem_singleton.mpr (gg j))), by rw [ua]; tm_at "o", by simp, by tm_at "o"⟩
 .rintro k made path ts rest ks (⟨rfl, rfl, e1, rfl⟩ | ⟨j, h1, rfl, e1, rfl, h2⟩)
  .cases e1
   refine An [] (cF e G.w.params [(oS "h", [.i (oS "i32")])]) ⟨ja Ai hm fun b hb => ?_, fun _ _ => ⟨8, by tm_at "o", .inr ⟨0, by tm_at "o", rfl, ?_, ?_, by (dsimp only [bN]; simp)⟩⟩⟩
   .cases dR hb with
    | ret => trivial
    | call hc =>
     cases List.mem_singleton.mp hc
     refine ⟨fun t cL hz => ?_, fun hn => ?_⟩
     .cases List.mem_singleton.mp cL; exact absurd hz (by decide)
     .replace hn := (show bH bE (oS "h") = _ from hh) ▸ hn; contradiction
   .show hN [oS "main"] [] (oS "h", [bL 0]) = _
    exact if_neg fun hk => i9 _ (List.mem_singleton.mp hk)
   .show fB [oS "main"] (oS "h", [bL 0]) = _
    exact if_neg fun hk => i9 _ (List.mem_singleton.mp hk)
  .cases e1
   have CF := gg j
   have Ij := jT j
   have vd := pg (j + 1)
   have LY : (2 : Nat) ^ (j + 1 + 1) <= 2 ^ 7 := Nat.pow_le_pow_right (by tm_at "o") (by tm_at "o")
   have h7 : (2 : Nat) ^ 7 = 128 := rfl
   have c2 : Cl (bL (j + 1)) := gg (j + 1)
   have HS := jT (j + 1)
   have Hg : plainT (m5 (bL j)) (.bP (.par (oS "T")) (.par (oS "T"))) = bL (j + 1) := sG CF
   have BF : bh (m5 (bL j)) (.bP (.par (oS "T")) (.par (oS "T"))) = bL (j + 1) := ph _
   refine An [oS "T"] (hD e' G.w.params) ⟨⟨by rfl, by simp, by decide +kernel, by decide +kernel, hh, fun _ => ⟨.inr fun b hb at' k' he => ?_, fun T hT => ?_, by show (1 : Nat) <= 60; decide, fun b hb => ?_, by show (2 : Nat) <= 60; decide, fun b hb => ?_⟩, fun iG => absurd rfl iG⟩, fun _ go => ?_⟩
   ·(dsimp only [hD] at hb; simp only [List.mem_cons, List.not_mem_nil, or_false] at hb)
    rcases hb with rfl | rfl <;> contradiction
   .cases List.mem_singleton.mp hT; (dsimp only [deep, bh, ht]; simp)
   ·(dsimp only [hD] at hb; simp only [List.mem_cons, List.not_mem_nil, or_false] at hb)
    rcases hb with rfl | rfl
    .refine ⟨(List.forall_mem_nil _), by simp, ⟨by simp, fun t cL => ?_, ?_⟩, by simp, List.forall_mem_nil _⟩
     .cases List.mem_singleton.mp cL
      show fy (bh (m5 (bL j)) _) = true /\ aV (bh (m5 (bL j)) _) <= 1000 /\ ht (bh (m5 (bL j)) _) <= 40 /\ _
      refine BF ▸ ?_
      exact ⟨o9 c2, by tm_at "o", by tm_at "o", by (dsimp only [ht]; simp)⟩
     .show kZ (oS "h") [plainT (m5 (bL j)) _] 40
      rw [Hg]
      have hl := mU c2 (m := 8) (by tm_at "o") (by tm_at "o")
      refine ⟨fun t cL => ?_, fun t cL => ?_, ?_⟩
      .cases List.mem_singleton.mp cL; exact dB c2
      .cases List.mem_singleton.mp cL; tm_at "o"
      .have : (oS "h").length = 1 := by decide +kernel
       simp only [List.map_cons, List.map_nil, List.sum_cons, List.sum_nil, List.length_singleton]; tm_at "o"
    .exact ⟨(List.forall_mem_nil _), by simp, trivial⟩
   ·(dsimp only [hD] at hb; simp only [List.mem_cons, List.not_mem_nil, or_false] at hb)
    rcases hb with rfl | rfl
    .exact ⟨fun t cL hz => hx, fun hn => hx⟩
    .trivial
   .have g1 := go.1.1 _ (.head _)
    replace g1 : aV (bh (m5 (bL j)) (.bP (.par (oS "T")) (.par (oS "T")))) <= 120 := g1
    rw [BF] at g1
    have hj : j <= 4 := by
     rcases Nat.lt_or_ge j 5 with h | h
     .tm_at "o"
     .have : (2 : Nat) ^ 7 <= 2 ^ (j + 1 + 1) := Nat.pow_le_pow_right (by tm_at "o") (by tm_at "o")
      tm_at "o"
    refine ⟨8 - (j + 1), by tm_at "o", .inr ⟨j + 1, by tm_at "o", rfl, ?_, ?_, ?_⟩⟩
    .show hN (gh j) [] (oS "h", [plainT (m5 (bL j)) (.bP (.par (oS "T")) (.par (oS "T")))]) = _
     rw [Hg]
     exact if_neg (jU j)
    .show fB (gh j) (oS "h", [plainT (m5 (bL j)) (.bP (.par (oS "T")) (.par (oS "T")))]) = _
     rw [Hg, <- sD]
     exact if_neg (jU j)
    .have := congrArg List.length (fm (es := made) (k := cf (oS "h") [bL j]) (y := fg G.w.params (cf (oS "h") [bL j]) (([oS "T"]).zip [bL j]) (hD e' G.w.params)))
     rw [List.length_map] at this
     rw [this]
     split
     .rw [List.length_map]; tm_at "o"
     .rw [List.length_append, List.length_map, List.length_singleton]; tm_at "o"
 .rcases hI with ⟨_, _, h, _⟩ | ⟨j, _, _, h, _⟩ <;> contradiction
def yB (ok : Ok G) {bE : List (Str × AV)} {e : Addr} (hm : bH bE (oS "main") = some (bw G.w.params (cF e G.w.params [(oS "none", [])]))) (hh : bH bE (oS "none") = none) (hR : aj A (n + 120)) {bM : aa} (hx : RX G A X bM Γ) :
  WC G A X (.ref 465) [bR G.w.params, ar G.w.params bE, .str (oS "main")] Γ Q := by
 refine instances ok (bM := bM) (h := 40) (j := 110) (fun k made wait ks => made = [] /\ wait = [(oS "main", [])] /\ ks = [oS "main"]) (k0 := 9) (fun _ => ⟨rfl, rfl, rfl⟩) ?_ ?_ (by rw [hm]; rfl) (Nat.le_refl _) (by tm_at "o") (by exact aj.le hR (by tm_at "o")) fun k1 made ks hI => ?_
 .rintro k made wait ks ⟨rfl, rfl, rfl⟩
  exact ⟨List.forall_mem_singleton.mpr kA, by simp, by simp, by simp⟩
 .rintro k made path ts rest ks ⟨rfl, e1, rfl⟩
  cases e1
  refine An [] (cF e G.w.params [(oS "none", [])]) ⟨ja Aj hm fun b hb => ?_, fun _ go => ?_⟩
  .cases dR hb with
   | ret => trivial
   | call hc =>
    cases List.mem_singleton.mp hc
    exact ⟨(List.forall_mem_nil _), fun _ => hx⟩
  .have g1 := go.1.2 (by show (oS "none") ∉ [oS "main"]; decide+kernel)
   replace g1 := (show bH bE (oS "none") = none from hh) ▸ g1
   k_dflt contradiction
 .cases hI.2.1
def Ak (ok : Ok G) {bE : List (Str × AV)} {e : Addr} {F : bC} (hF : nR F) (hm : bH bE (oS "main") = some (bw G.w.params (cF e G.w.params [(oS "f", [.i (oS "i32")])]))) (hh : bH bE (oS "f") = some (bw G.w.params (fD F))) (hR : aj A (n + 120)) {bM : aa} (hx : RX G A X bM Γ) :
  WC G A X (.ref 465) [bR G.w.params, ar G.w.params bE, .str (oS "main")] Γ Q := by
 have iG : cf (oS "f") [.i (oS "i32")] ∉ [oS "main"] := by
  intro h
  have e := congrArg codes (List.mem_singleton.mp h)
  have h2 : codes (oS "main") = [109, 97, 105, 110] := by decide +kernel
  have h3 : codes (cf (oS "f") [.i (oS "i32")]) = [102, 60, 105, 51, 50, 62] := by decide +kernel
  rw [h3, h2] at e
  simp at e
 refine instances ok (bM := bM) (h := 40) (j := 110) (fun k made wait ks => (k = 9 /\ made = [] /\ wait = [(oS "main", [])] /\ ks = [oS "main"]) \/ (k = 8 /\ made.length <= 1 /\ wait = [(oS "f", [.i (oS "i32")])] /\ ks.length <= 2)) (k0 := 9) (fun _ => .inl ⟨rfl, rfl, rfl, rfl⟩) ?_ ?_ (by rw [hm]; rfl) (Nat.le_refl _) (by tm_at "o") (by exact aj.le hR (by tm_at "o")) fun k1 made ks hI => ?_
 .rintro k made wait ks (⟨rfl, rfl, rfl, rfl⟩ | ⟨rfl, h2, rfl, h3⟩)
  .exact ⟨List.forall_mem_singleton.mpr kA, by simp, by simp, by simp⟩
  .exact ⟨List.forall_mem_singleton.mpr (df (by tm_at "dk") (by simp) (fun t cL => by cases List.mem_singleton.mp cL; rfl)), by tm_at "o", by simp, by tm_at "o"⟩
 .rintro k made path ts rest ks (⟨rfl, rfl, e1, rfl⟩ | ⟨rfl, h2, e1, h3⟩)
  .cases e1
   refine An [] (cF e G.w.params [(oS "f", [.i (oS "i32")])]) ⟨ja Cm hm fun b hb => ?_, fun _ _ => ⟨8, by tm_at "o", .inr ⟨rfl, by (dsimp only [bN]; simp), ?_, ?_⟩⟩⟩
   .cases dR hb with
    | ret => trivial
    | call hc =>
     cases List.mem_singleton.mp hc
     exact ⟨fun t cL hz => hx, fun hn => hx⟩
   .show hN [oS "main"] [] (oS "f", [.i (oS "i32")]) = _
    exact if_neg iG
   .show (fB [oS "main"] (oS "f", [.i (oS "i32")])).length <= 2
    rw [show fB [oS "main"] (oS "f", [.i (oS "i32")]) = _ from if_neg iG]; simp
  .cases e1
   exact An ([oS "A", oS "B"]) (fD F) ⟨⟨by rfl, by simp, by decide +kernel, by decide +kernel, hh, (fun he => by contradiction), fun _ => hx⟩, fun he => by contradiction⟩
 .rcases hI with ⟨_, _, h, _⟩ | ⟨_, _, h, _⟩ <;> contradiction
end
section
def e9 (P : Params) (mE : List (Str × AV)) (c : Str × List Ty) (n : Nat) : Prop := ∀ (G' : Base) (A : Around) (X : Value -> Shared -> Prop) (Γ : aa) (e : Addr), Ok G' -> G'.w.params = P -> aj A (n + 120) -> RX G' A X Γ Γ ->
 WC G' A X (.ref 465) [bR P, ar P (putAll [] (mE ++ [(oS "main", bw P (cF e P [c]))])), .str (oS "main")] Γ fun _ _ => False
def Ok.of (ok : Ok G) {G' : Base} (h1 : G'.K = G.K) (h2 : G'.mb = G.mb) (h3 : G'.w = G.w) : Ok G' := ⟨by rw [h1, h3]; exact ok.K, by rw [h2]; exact ok.mb⟩
def m6 (ok : Ok G) {mE : List (Str × AV)} {c : Str × List Ty} (fx : FX A Γ) (hl : mE.length <= 60) (hc : ∀ n, e9 G.w.params mE c n) (hR : aj A (n + 130)) (q : Q (.raw (.bool true)) Γ) : WC G A X (.ref 634) [ar G.w.params mE, fA c.1 c.2] Γ Q := by
 have g1 := jE ok
 have g2 := kT ok
 have g3 := kR ok
 have b1 := mA ok
 have b2 := mz ok
 tm_at "def2X"
 intro L env A' X' eL fZ hD
 tm_at "go0"
 k_dflt obtain ⟨fs, tn, hf⟩ := fx.ex
 tm_at "v"
 refine W1.zt (x := (oS "LendError")) eL (by tm_at "m") (ok.mg (by kernel_rfl)) (fun cls hc => ?_) (outer := fs) (by rw [hD.around]; exact Around.frames_deeper tn) hD.frame fun X2 => ?_
 .rw [ok.K]
  rcases hc with rfl | rfl <;> kernel_rfl
 tm_at "v"
 refine oW (n := n) ok (by tm_at "r") ?_
 tm_at "v"
 refine WM.items ?_
 tm_at "v"
 refine WC.items ?_
 tm_at "v"
 refine WC.tB ‹_› (Nat.le_trans hl (by decide)) ?_
 tm_at "v"
 refine WE.list ?_
 tm_at "v"
 refine WE.list ?_
 tm_at "v"
 refine r6 (cs := [c]) (n := n) ok (by simp) (by tm_at "r") fun e => ?_
 tm_at "v"
 refine WB.ez .lst .lst (by rw [List.length_map, sizeLine_eq]; simp; tm_at "o") ?_
 have Bf : mE.map ot ++ [AV.tup [.str (oS "main"), bw G.w.params (cF e G.w.params [c])]] = (mE ++ [(oS "main", bw G.w.params (cF e G.w.params [c]))]).map ot := by rw [List.map_append]; rfl
 rw [Bf]
 tm_at "v"
 refine WC.dict_list ‹_› (by rw [List.length_append, sizeLine_eq]; simp; tm_at "o") ?_
 tm_at "v"
 refine ⟨g3.k _, FX.enter hD fx eL.kind (by tm_at "m") (by tm_at "memh"), fun A3 X3 => ?_, fun G' bM X3 k1 k2 k3 k4 rx => ?_⟩
 .tm_at "v"
  tm_at "fq"
 .have hw : G'.w.params = G.w.params := by rw [k3]
  exact hc n G' A' X3 bM e (ok.of k1 k2 k3) hw (by exact aj.le fZ (by tm_at "o")) rx
end
section
def Cn (ok : Ok G) (hR : aj A (n + 2)) (q : ∀ e, Q (bw G.w.params (hD e G.w.params)) Γ) : WC G A X (.ref 336) [.str (oS "h"), .int 0, .lst [ee .dj], .lst [cO ([], uU), cO ([], .ret)]] Γ Q :=
 i5 (n := n) ok rfl (short rfl) rfl hR q
noncomputable abbrev sH := Str × List Ty
noncomputable def qH : List sH := [(oS "h", [.i (oS "i32")]), (oS "none", []), (oS "f", [.i (oS "i32")])]
def jb (ok : Ok G) {bE : List (Str × AV)} (fx : FX A Γ) (hl : bE.length <= 50) (hn : (oS "h") ∉ bE.map (·.1))
  (hc : ∀ e n, e9 G.w.params (bE ++ [(oS "h", bw G.w.params (hD e G.w.params))]) (oS "h", [.i (oS "i32")]) n /\ e9 G.w.params (bE ++ [(oS "h", bw G.w.params (hD e G.w.params))]) (oS "none", []) n /\ e9 G.w.params (bE ++ [(oS "h", bw G.w.params (hD e G.w.params))]) (oS "f", [.i (oS "i32")]) n)
  (hR : aj A (n + 140)) (q : Q (.raw (.bool true)) Γ) : WC G A X (.ref 639) [ar G.w.params bE] Γ Q := by
 have g1 := dP ok
 have g2 := fV ok
 have g3 := pV ok
 have g4 := jG ok
 have b1 := mA ok
 have s1 := jK ok
 have s2 := qd ok
 tm_at "def1X"
 intro L env A' X' eL fZ hIn
 tm_at "go0"
 tm_at "v"
 refine WC.vx .d8 (Nat.le_trans hl (by decide)) fun d => ?_
 tm_at "v"
 refine WE.list ?_
 tm_at "v"
 refine WE.list ?_
 tm_at "v"
 refine WE.list ?_
 tm_at "v"
 refine WE.list ?_
 tm_at "v"
 refine WE.list ?_
 tm_at "v"
 refine WE.list ?_
 tm_at "v"
 refine Cn (n := n) ok (by tm_at "r") fun e => ?_
 k_dflt obtain ⟨DU, DV, IC⟩ := And.intro (fun n => (hc e n).1) (And.intro (fun n => (hc e n).2.1) (fun n => (hc e n).2.2))
 obtain ⟨mE, Hh⟩ : ∃ mE, mE = bE ++ [(oS "h", bw G.w.params (hD e G.w.params))] := ⟨_, rfl⟩
 rw [<- Hh] at DU DV IC
 have ID : mE.length <= 60 := by rw [Hh, List.length_append]; simp; tm_at "o"
 tm_at "v"
 refine WK.dict (by tm_at "p") (Nat.le_trans hl (by decide)) ?_
 rw [gb hn, <- Hh]
 refine WS.seen (Seen.rK (ao.pick (a := L + 1) (by tm_at "p") (ao.pick (a := d) (by tm_at "p") (ao.refl _)))) ?_
 tm_at "v"
 refine WE.list ?_
 tm_at "v"
 (refine WE.gR sH 1 [oS "call"] [(oS ".0", .local), (oS "call", .local), (oS "_law_is_refused", .globalImplicit), (oS "more", .cell)] _ (fun _ => false) (fun c => fA c.1 c.2) (fun c => fA c.1 c.2) ‹_› (by kernel_rfl) (by tm_at "dk") (by tm_at "dk") (by tm_at "lent") (by tm_at "dm") (by tm_at "dk") ?_)
 tm_at "v"
 refine ⟨qH, au.seq ‹_› rfl, short rfl, fun X2 aF D C acc dC c Hi => ?_, ?_⟩
 .dsimp only [Each, fu, blank, List.map, List.cons_append, List.nil_append, List.append]
  intro I o
  tm_at "v"
  refine WI.one ?_
  tm_at "v"
  have K8 : ∀ n, e9 G.w.params mE c n := by
   (dsimp only [qH] at Hi; simp only [List.mem_cons, List.not_mem_nil, or_false] at Hi)
   rcases Hi with rfl | rfl | rfl
   .exact DU
   .exact DV
   .exact IC
  refine m6 (n := n) ok (FX.enter hIn fx eL.kind (by tm_at "m") (by tm_at "memh")) ID K8 (by tm_at "r") ?_
  tm_at "v"
  refine ⟨rfl, ?_⟩
  tm_at "endfilt"
 .rw [show qH.filter (fun _ => false) = [] from rfl, List.map_nil]
  tm_at "v"
  refine WE.list ?_
  tm_at "v"
  refine WB.eq_data (d := .list []) (e := .list []) ‹_› rfl rfl rfl rfl ?_
  tm_at "fq"
end
section
theorem WE.fin {env : Env} {ex : Expr} {Γ : aa} {Q : AV -> aa -> Prop} (h : WE G A X env ex Γ (Mine.Fin G Q)) : WE G A X env ex Γ Q := .mk fun s S => (h.go s S).fin
def vW {env : Env} {names : List (Str × NameKind)} {L : Addr} {cl : List (Str × Addr)} (ok : aA env names L cl) {y : Str} {py pos : Pos} {elt : Expr} {gens : List Comprehension} {scope : Scope} {line : Nat} (hy : (y, NameKind.cell) ∈ names) : swapsWithSole [.Name y py] (.ListComp elt gens scope pos) line env = pure false := by
 show (pure (env.blockKind == .function && env.kindOf y == some .local && py.line == pos.line && !(scope.names.any fun (n, k) => n == y && (k == .local || k == .cell))) : Sem Bool) = pure false
 rw [ok.kindOf hy]
 have h : ((some NameKind.cell == some NameKind.local) : Bool) = false := rfl
 rw [h, Bool.and_false, Bool.false_and, Bool.false_and]
def uV {tab : List (Str × Ty)} {x : AV} {k : Nat} (h : Wf tab x k) : cG (k + 1) x := by
 induction h with
 | none => exact fF
 | bool => exact ku
 | int => exact jO
 | str h => exact cH h
 | par h _ => exact cu (aO (cH (by tm_at "dk")) (aO (cH h) dz))
 | tup _ _ _ _ _ ih => exact cu ih
noncomputable def lg (bs : List eC) : AV := .lst (bs.map fun b => .tup [.lst (b.1.map cD), bQ b.2])
def m7 {P : Params} {tab : List (Str × Ty)} {D : BD} (h : dU P tab D) : cG 20 (lg D.bs) := by
 refine (fE (k := 15) fun y hy => ?_).mono (by tm_at "o")
 obtain ⟨b, hb, rfl⟩ := List.mem_map.mp hy
 refine cu (aO (fE (k := 13) fun z hz => ?_) (aO ((uV (h.ends b hb).1.wf).mono (by tm_at "o")) dz))
 obtain ⟨r, hr, rfl⟩ := List.mem_map.mp hz
 exact uV ((h.rows b hb).2 r hr).wf
noncomputable def nV (P : Params) (F : bC) (e : Addr) (cs : List (Str × List Ty)) : List (Str × AV) := [(oS "f", bw P (fD F)), (oS "g", bw P (gD F P)), (oS "main", bw P (cF e P cs))]
def Al {P : Params} {F : bC} {e : Addr} {cs : List (Str × List Ty)} : yw P (nV P F e cs) F e cs := ⟨by rfl, by rfl, by rfl⟩
noncomputable abbrev eJ : List Str := [oS "f", oS "g", oS "main"]
def yC {P : Params} {F : bC} {e : Addr} {cs : List (Str × List Ty)} {t : Str} (h : t ∈ eJ) : bH (nV P F e cs) t = some (bw P (DJ P F e cs t)) := by
 simp only [eJ, List.mem_cons, List.not_mem_nil, or_false] at h
 rcases h with rfl | rfl | rfl
 .rw [t9]; rfl
 .rw [yq]; rfl
 .rw [iB]; rfl
noncomputable abbrev lh : AV := .raw (.bool true)
noncomputable def cU (es : List (Str × AV)) (ks : List Str) : List (Str × AV) := ks.foldl (fun es k => bN es k lh) es
def sI {es : List (Str × AV)} {k z : Str} {y : AV} : z ∈ (bN es k y).map (·.1) ↔ z ∈ es.map (·.1) \/ z = k := by
 rw [fm]
 split
 .rename_i h
  exact ⟨.inl, fun q => q.elim id fun e => e ▸ h⟩
 .rw [List.mem_append, List.mem_singleton]
def m8 {es : List (Str × AV)} {k : Str} {y : AV} (h : (es.map (·.1)).Nodup) : ((bN es k y).map (·.1)).Nodup := by
 rw [fm]
 split
 .exact h
 .rename_i hk
  exact List.nodup_append.mpr ⟨h, by simp, fun a ha b hb e => by cases List.mem_singleton.mp hb; exact hk (e ▸ ha)⟩
def kB {es : List (Str × AV)} {k : Str} {y : AV} : (bN es k y).length <= es.length + 1 := by
 have := congrArg List.length (fm (es := es) (k := k) (y := y))
 rw [List.length_map] at this
 rw [this]
 split <;> simp
def qI (es : List (Str × AV)) (ks : List Str) (k : Str) : cU es (ks ++ [k]) = bN (cU es ks) k lh := by (dsimp only [cU]; simp)
def lj : ∀ (ks : List Str) (es : List (Str × AV)), (es.map (·.1)).Nodup -> ((cU es ks).map (·.1)).Nodup /\ (∀ z, z ∈ (cU es ks).map (·.1) ↔ z ∈ es.map (·.1) \/ z ∈ ks) /\ (cU es ks).length <= es.length + ks.length := by
 intro ks; induction ks with
 | nil => intro es h; exact ⟨h, fun z => by (dsimp only [cU]; simp), Nat.le_refl _⟩
 | cons k ks ih =>
  intro es h
  k_dflt obtain ⟨h1, h2, h3⟩ := ih (bN es k lh) (m8 h)
  have e : cU es (k :: ks) = cU (bN es k lh) ks := rfl
  have hl := kB (es := es) (k := k) (y := lh)
  rw [e]
  refine ⟨h1, fun z => ?_, by simp only [List.length_cons]; tm_at "o"⟩
  rw [h2, sI, List.mem_cons, or_assoc]
noncomputable abbrev sJ (j : eN) : AV := .tup [.str j.1, .tup (j.2.map enc)]
noncomputable def gu (t0 t1 t2 : Ty) : List eN := [(oS "main", []), (oS "f", [pl t0, pl t1]), (oS "f", [pl t1, pl t2])]
structure pj (P : Params) (F : bC) (e : Addr) (ps : List (Ty × Ty)) (dn : List eN) (es : List (Str × AV)) : Prop where
 nd : (es.map (·.1)).Nodup
 mem : ∀ z, z ∈ es.map (·.1) ↔ ∃ j ∈ dn, z = cx j \/ z ∈ (cI P F e (callsOf ps) j).map cx
 n : es.length <= 7 * dn.length
def Hj {P : Params} {F : bC} {e : Addr} {ps : List (Ty × Ty)} : pj P F e ps [] [] := ⟨by simp, fun z => by simp, Nat.zero_le _⟩
def yD {P : Params} {F : bC} {e : Addr} {ps : List (Ty × Ty)} (hF : nR F) (h : Pairs ps) {dn : List eN} {j : eN} {es : List (Str × AV)} (hj : dF F ps j) (d : pj P F e ps dn es) : pj P F e ps (dn ++ [j]) (cU (bN es (cx j) lh) ((cI P F e (callsOf ps) j).map cx)) := by
 obtain ⟨h1, h2, h3⟩ := lj ((cI P F e (callsOf ps) j).map cx) (bN es (cx j) lh) (m8 d.nd)
 have hc := (kz (P := P) (e := e) hF h hj).2
 have hl := sC (cI P F e (callsOf ps) j)
 have hw : wJ j <= 7 := by unfold wJ; split <;> (try split) <;> tm_at "o"
 have hz := kB (es := es) (k := cx j) (y := lh)
 have LZ := d.n
 refine ⟨h1, fun z => ?_, ?_⟩
 .rw [h2, sI, d.mem]
  constructor
  .rintro ((⟨i, hi, q⟩ | q) | q)
   .exact ⟨i, List.mem_append_left _ hi, q⟩
   .exact ⟨j, by simp, .inl q⟩
   .exact ⟨j, by simp, .inr q⟩
  .rintro ⟨i, hi, q⟩
   rcases List.mem_append.mp hi with hi | hi
   .exact .inl (.inl ⟨i, hi, q⟩)
   .cases List.mem_singleton.mp hi
    rcases q with q | q
    .exact .inl (.inr q)
    .exact .inr q
 .rw [List.length_map] at h3
  rw [List.length_append, List.length_singleton]; tm_at "o"
def vX {P : Params} {F : bC} {e : Addr} {ps : List (Ty × Ty)} (hF : nR F) (h : Pairs ps) {t0 t1 t2 : Ty} (hp : ∀ p ∈ ps, p = (t0, t1) \/ p = (t1, t2)) (p1 : (t0, t1) ∈ ps) (p2 : (t1, t2) ∈ ps)
  {es made : List (Str × AV)} {done : List eN} (d : pj P F e ps (gu t0 t1 t2) es) (f : Found P F e ps made done) : (es.map (·.1)).Perm (made.map (·.1)) := by
 have hm : made.map (·.1) = done.map cx := by rw [f.yQ, List.map_map]; rfl
 rw [hm]
 have IE : ∀ j ∈ gu t0 t1 t2, dF F ps j := fun j hj => by
  (dsimp only [gu] at hj; simp only [List.mem_cons, List.not_mem_nil, or_false] at hj)
  rcases hj with rfl | rfl | rfl
  .exact .main
  .exact .f p1
  .exact .f p2
 refine (List.perm_ext_iff_of_nodup d.nd f.nd).mpr fun z => ?_
 rw [d.mem]
 constructor
 .rintro ⟨j, hj, rfl | q⟩
  .exact List.mem_map_of_mem (f.all j (IE j hj))
  .obtain ⟨c, hc, rfl⟩ := List.mem_map.mp q
   exact List.mem_map_of_mem (f.all c ((kz (P := P) (e := e) hF h (IE j hj)).1 c hc))
 .intro hz
  obtain ⟨j, hj, rfl⟩ := List.mem_map.mp hz
  have fj : ∀ p ∈ ps, (oS "f", [pl p.1, pl p.2]) ∈ gu t0 t1 t2 := fun p CM => by
   rcases hp p CM with rfl | rfl
   .exact .tail _ (.head _)
   .exact .tail _ (.tail _ (.head _))
  cases f.each j hj with
  | main => exact ⟨_, .head _, .inl rfl⟩
  | f CM => exact ⟨_, fj _ CM, .inl rfl⟩
  | @g p CM =>
   refine ⟨_, fj _ CM, .inr (List.mem_map_of_mem ?_)⟩
   show _ ∈ bq ((qF (oS "f")).zip _) (DJ P F e (callsOf ps) (oS "f")).bs
   rw [t9, mY]
   show _ ∈ bq (a9 (pl p.1) (pl p.2)) (fD F).bs
   rw [qG hF (h.snd CM)]
   exact .head _
def yE {α : Type} (kf : α -> Str) (vf : α -> AV) : ∀ {l : List α}, (l.map kf).Nodup -> ∀ {a}, a ∈ l -> bH (l.map fun x => (kf x, vf x)) (kf a) = some (vf a) := by
 intro l; induction l with
 | nil => intro _ a h; cases h
 | cons b l ih =>
  intro nd a h
  rw [List.map_cons] at nd
  rw [List.map_cons]
  dsimp only [bH]
  rcases List.mem_cons.mp h with rfl | h
  .rw [if_pos rfl]
  .have : kf b ≠ kf a := fun q => (List.nodup_cons.mp nd).1 (q ▸ List.mem_map_of_mem h)
   rw [if_neg this]
   exact ih (List.nodup_cons.mp nd).2 h
def vY {P : Params} {F : bC} {e : Addr} {ps : List (Ty × Ty)} {made : List (Str × AV)} {done : List eN} (f : Found P F e ps made done) {j : eN} (hj : dF F ps j) : bH made (cx j) = some (fg P (cx j) (gE j) (DJ P F e (callsOf ps) j.1)) := by
 rw [f.yQ]
 exact yE cx (fun j => fg P (cx j) (gE j) (DJ P F e (callsOf ps) j.1)) f.nd (f.all j hj)
def yF {P : Params} {F : bC} {e : Addr} {ps : List (Ty × Ty)} (hF : nR F) (h : Pairs ps) {j : eN} (hj : dF F ps j) : dU P (gE j) (DJ P F e (callsOf ps) j.1) /\ kZ j.1 j.2 20 /\ j.1 ∈ eJ := by
 induction hj with
 | main =>
  show dU P ((qF (oS "main")).zip []) (DJ P F e (callsOf ps) (oS "main")) /\ _
  rw [ic, iB]
  exact ⟨lb h.main, eI (show (oS "main").length <= 1000 by decide+kernel) (by simp) (List.forall_mem_nil _) (by tm_at "o"), show (oS "main") ∈ eJ by decide +kernel⟩
 | @f p hp =>
  show dU P ((qF (oS "f")).zip [pl p.1, pl p.2]) (DJ P F e (callsOf ps) (oS "f")) /\ _
  rw [mY, t9]
  refine ⟨sm hF (h.fst hp) (h.snd hp), eI (show (oS "f").length <= 1000 by decide+kernel) (by simp) (fun t cL => ?_) (by tm_at "o"), show (oS "f") ∈ eJ by decide +kernel⟩
  simp only [List.mem_cons, List.not_mem_nil, or_false] at cL
  rcases cL with rfl | rfl
  .exact ⟨(h.fst hp).cl, by have := (h.fst hp).ht; tm_at "o"⟩
  .exact ⟨(h.snd hp).cl, by have := (h.snd hp).ht; tm_at "o"⟩
 | @g p hp =>
  show dU P ((qF (oS "g")).zip [nU F.sec (pl p.2)]) (DJ P F e (callsOf ps) (oS "g")) /\ _
  rw [yp, yq]
  have hc := Ae hF (h.snd hp)
  refine ⟨so hc, eI (show (oS "g").length <= 1000 by decide+kernel) (by simp) (fun t cL => ?_) (by tm_at "o"), show (oS "g") ∈ eJ by decide +kernel⟩
  cases List.mem_singleton.mp cL
  exact ⟨hc.cl, by have := hc.ht; tm_at "o"⟩
def sL {P : Params} {F : bC} {e0 : Addr} {cs : List (Str × List Ty)} (hF : nR F) (e : Addr) (n : Nat) :
  e9 P (nV P F e0 cs ++ [(oS "h", bw P (hD e P))]) (oS "h", [.i (oS "i32")]) n /\ e9 P (nV P F e0 cs ++ [(oS "h", bw P (hD e P))]) (oS "none", []) n /\ e9 P (nV P F e0 cs ++ [(oS "h", bw P (hD e P))]) (oS "f", [.i (oS "i32")]) n := by
 refine ⟨?_, ?_, ?_⟩
 .intro G' A X Γ e1 eL hP hR rx
  subst hP
  exact yA (n := n) eL (e := e1) (e' := e) (by rfl) (by rfl) hR rx
 .intro G' A X Γ e1 eL hP hR rx
  subst hP
  exact yB (n := n) eL (e := e1) (by rfl) (by rfl) hR rx
 .intro G' A X Γ e1 eL hP hR rx
  subst hP
  exact Ak (n := n) eL (e := e1) hF (by rfl) (by rfl) hR rx
def yG {P : Params} {F : bC} {e : Addr} {ps : List (Ty × Ty)} {made : List (Str × AV)} {done : List eN} (hF : nR F) (h : Pairs ps) (f : Found P F e ps made done) {ss : List Str} (hs : ss.Perm (made.map (·.1))) : cG 64 (.lst (ss.map .str)) := by
 refine (fE (k := 0) fun y hy => ?_).mono (by tm_at "o")
 obtain ⟨z, hz, rfl⟩ := List.mem_map.mp hy
 have hz := hs.mem_iff.mp hz
 rw [f.yQ, List.map_map] at hz
 obtain ⟨j, hj, rfl⟩ := List.mem_map.mp hz
 exact cH (tW ((f.each j hj).wait hF h))
def vZ {P : Params} {F : bC} {e : Addr} {ps : List (Ty × Ty)} {made : List (Str × AV)} {done : List eN} (f : Found P F e ps made done) : made.length <= 7 := by rw [f.yQ, List.length_map]; exact f.n
end
section
noncomputable abbrev IG (L a bd : Addr) (zs : List Int) (bf bg : AV) (Γ : aa) (x y : Int) : aa := (a, .list [.int x, .int y]) :: (bd, .bj [(oS "f", bf), (oS "g", bg)]) :: (L, .ns [(oS "script", some (.lst (zs.map .int))), (oS "types", none), (oS "calls", none), (oS "path", none), (oS "before", none), (oS "found", none), (oS "due", none), (oS "left", none), (oS "some", none), (oS "table", none), (oS "keys", none), (oS "key", none)]) :: (L + 1, .cell (some (.raw (.ref a)))) :: (L + 1 + 1, .cell (some (.raw (.ref bd)))) :: (L + 1 + 1 + 1, .cell none) :: Γ
inductive Hk (H : Int -> Int -> aa) (acc xs : List AV) : aa -> Prop
 | mk {x y : Int} (ts : List Ty) (hs : i0 x y) (e : acc = ts.map enc) (h : ∀ T ∈ ts, Drawn T /\ ht T <= 2) (hx : xs = (cA 0 3).drop ts.length) (hl : ts.length <= 3) : Hk H acc xs (H x y)
def three {H : Int -> Int -> aa} {acc : List AV} {ae : aa} (h : Hk H acc [] ae) : ∃ x y t0 t1 t2, ae = H x y /\ i0 x y /\ acc = [enc t0, enc t1, enc t2] /\ ∀ T ∈ [t0, t1, t2], Drawn T /\ ht T <= 2 := by
 obtain ⟨ts, hs, e, h, hx, hl⟩ := h
 rcases ts with _ | ⟨t0, _ | ⟨t1, _ | ⟨t2, _ | ⟨t3, ts⟩⟩⟩⟩
 .cases hx
 .cases hx
 .cases hx
 .exact ⟨_, _, t0, t1, t2, rfl, hs, e, h⟩
 .exact absurd hl (Nat.not_succ_le_zero _ ∘ Nat.le_of_succ_le_succ ∘ Nat.le_of_succ_le_succ ∘ Nat.le_of_succ_le_succ)
noncomputable abbrev sM (t0 t1 t2 : Ty) : List (Ty × Ty) := [(t0, t1), (t1, t2), (t0, t1)]
structure Co (t0 t1 t2 : Ty) (ps : List (Ty × Ty)) : Prop where
 ok : Pairs ps
 m1 : (t0, t1) ∈ ps
 m2 : (t1, t2) ∈ ps
 all : ∀ p ∈ ps, p = (t0, t1) \/ p = (t1, t2)
def Ef {t0 t1 t2 : Ty} (h : ∀ T ∈ [t0, t1, t2], Drawn T /\ ht T <= 2) {k : Nat} (hk : 2 <= k) : Co t0 t1 t2 ((sM t0 t1 t2).take k) := by
 have all : ∀ p ∈ (sM t0 t1 t2).take k, p = (t0, t1) \/ p = (t1, t2) := fun p hp => by
  have := List.mem_of_mem_take hp
  simp only [sM, List.mem_cons, List.not_mem_nil, or_false] at this
  rcases this with h | h | h
  .exact .inl h
  .exact .inr h
  .exact .inl h
 obtain ⟨j, rfl⟩ : ∃ j, k = j + 2 := ⟨k - 2, by tm_at "o"⟩
 refine ⟨⟨by rw [List.length_take]; exact Nat.min_le_right .., fun p hp => ?_⟩, .head _, .tail _ (.head _), all⟩
 rcases all p hp with rfl | rfl
 .exact ⟨h _ (.head _), h _ (.tail _ (.head _))⟩
 .exact ⟨h _ (.tail _ (.head _)), h _ (.tail _ (.tail _ (.head _)))⟩
def ub {ps : List (Ty × Ty)} : (ps.map fun p => fA (oS "f") [p.1, p.2]) = (callsOf ps).map fun c => fA c.1 c.2 := by
 rw [callsOf, List.map_map]
 rfl
def m9 {P : Params} {F : bC} {e : Addr} {ps : List (Ty × Ty)} {t0 t1 t2 : Ty} (hF : nR F) (p : Co t0 t1 t2 ps) {t : Str} (h : t ∈ eJ) : (DJ P F e (callsOf ps) t).bs.length <= 60 /\ cG 20 (lg (DJ P F e (callsOf ps) t).bs) /\ ∀ b ∈ (DJ P F e (callsOf ps) t).bs, b.1.length <= 60 := by
 have f0 := p.ok.fst p.m1
 have f1 := p.ok.snd p.m1
 simp only [eJ, List.mem_cons, List.not_mem_nil, or_false] at h
 rcases h with rfl | rfl | rfl
 .rw [t9]; have h2 := sm (P := P) hF f0 f1; exact ⟨h2.nB, m7 h2, fun b hb => (h2.rows b hb).1⟩
 .rw [yq]; have h2 := so (P := P) (F := F) (.one f0); exact ⟨h2.nB, m7 h2, fun b hb => (h2.rows b hb).1⟩
 .rw [iB]; have h2 := lb (P := P) (e := e) p.ok.main; exact ⟨h2.nB, m7 h2, fun b hb => (h2.rows b hb).1⟩
def Cp {F : bC} {ps : List (Ty × Ty)} {t0 t1 t2 : Ty} (p : Co t0 t1 t2 ps) {j : eN} (hj : j ∈ gu t0 t1 t2) : dF F ps j /\ putAll [] ([oS "A", oS "B"].zip (j.2.map enc)) = bF (gE j) := by
 rw [mI (by tm_at "dk")]
 (dsimp only [gu] at hj; simp only [List.mem_cons, List.not_mem_nil, or_false] at hj)
 rcases hj with rfl | rfl | rfl
 .exact ⟨.main, by show bF [] = bF ((qF (oS "main")).zip []); rw [ic]; rfl⟩
 .exact ⟨.f p.m1, by show _ = bF ((qF (oS "f")).zip _); rw [mY]⟩
 .exact ⟨.f p.m2, by show _ = bF ((qF (oS "f")).zip _); rw [mY]⟩
noncomputable abbrev ES (t0 t1 t2 : Ty) : AV := .lst [.tup [.str (oS "fn"), .str (oS "f"), .tup [enc t0, enc t1]], .tup [.str (oS "fn"), .str (oS "f"), .tup [enc t1, enc t2]], .tup [.str (oS "fn"), .str (oS "f"), .tup [enc t0, enc t1]]]
noncomputable abbrev ET (L a du : Addr) (zs : List Int) (x y : Int) (K9 La lf cv bv mv be : AV) (Γ : aa) (pv sv tv kv yv : Option AV) (es : List (Str × AV)) : aa := (du, .bj es) :: (L, .ns [(oS "script", some (.lst (zs.map .int))), (oS "types", some K9), (oS "calls", some cv), (oS "path", pv), (oS "before", some bv), (oS "found", some mv), (oS "due", some (.raw (.ref du))), (oS "left", some lf), (oS "some", sv), (oS "table", tv), (oS "keys", kv), (oS "key", yv)]) :: (L + 1 + 1 + 1, .cell (some La)) :: (L + 1 + 1, .cell (some be)) :: (a, .list [.int x, .int y]) :: (L + 1, .cell (some (.raw (.ref a)))) :: Γ
inductive IH (P : Params) (F : bC) (e : Addr) (ps : List (Ty × Ty)) (H : Option AV -> Option AV -> Option AV -> Option AV -> Option AV -> List (Str × AV) -> aa) (dn todo : List eN) : aa -> Prop
 | mk {pv sv tv kv yv : Option AV} {es : List (Str × AV)} (d : pj P F e ps dn es) : IH P F e ps H dn todo (H pv sv tv kv yv es)
noncomputable abbrev II (I : Addr) (o : Obj) (H : Option AV -> List (Str × AV) -> aa) (yv : Option AV) (es : List (Str × AV)) : aa := (I, .obj o) :: H yv es
inductive IJ (H : Option AV -> List (Str × AV) -> aa) (CN : List (Str × AV)) (dk tk : List Str) : aa -> Prop
 | mk {yv : Option AV} : IJ H CN dk tk (H yv (cU CN dk))
def yH (ok : Ok G) (ft : cb G) (fx : FX A Γ) {zs : List Int} (hz : zs.length <= 1000) (hR : aj A (n + 200)) (q : Q (.raw (.bool true)) Γ) : WC G A X (.ref 644) [.lst (zs.map .int)] Γ Q := by
 have g1 := rO ok
 have g2 := nK ok
 have g3 := eU ok
 have g4 := kT ok
 have g5 := eT ok
 have g6 := kR ok
 have g7 := jE ok
 have g8 := fc ok
 have g9 := my ok
 have L1 := jF ok
 have L4 := gy ok
 have b1 := jH ok
 have b2 := xD ok
 have b3 := mz ok
 have b4 := mA ok
 have b5 := uy ok
 tm_at "def1X"
 intro L env A' X' eL fZ hIn
 tm_at "go0"
 tm_at "v"
 refine ya (n := n) ok hz (by tm_at "r") fun a x y hs => ?_
 tm_at "v"
 refine tY (n := n) ok hs (by tm_at "p") (by tm_at "r") fun x1 y1 F bd AR hF => ?_
 tm_at "v"
 refine W1.weak (ae := IG L a bd zs (bw G.w.params (fD F)) (bw G.w.params (gD F G.w.params)) Γ x1 y1) (by tm_at "w") ?_
 refine W1.kF 1 [oS "turn"] [(oS ".0", .local), (oS "turn", .local), (oS "_law_drawn_type", .globalImplicit), (oS "source", .cell)] _ ‹_› (by kernel_rfl) (by tm_at "dk") (by tm_at "dk") (by tm_at "lent") (by tm_at "dm") (by tm_at "dk") (by tm_at "m") (by tm_at "dk")
  (Hk (IG L a bd zs (bw G.w.params (fD F)) (bw G.w.params (gD F G.w.params)) Γ)) ?_ ?_ ?_
 .tm_at "v"
  refine WC.l3 ?_
  exact ⟨au.range ‹_› (by decide) (by decide), by dsimp only [cA]; decide, .mk [] AR rfl (List.forall_mem_nil _) rfl (Nat.zero_le _)⟩
 .intro X3 aF D C acc x rest ae dC hI
  cases hI with | @mk x3 y3 ts nM he uF AF hlen => ?_
  obtain ⟨hk, rfl, kH⟩ := mP AF.symm
  dsimp only [Each, ji, blank, List.map, List.cons_append, List.nil_append]
  intro I o
  tm_at "v"
  refine WI.nil ?_
  tm_at "v"
  refine mG ok 2 nM (by tm_at "p") (by tm_at "o") (by tm_at "r") fun x4 y4 T D3 hT hh => ?_
  exact FO (m := [(oS "turn", some (.int (0 + (ts.length : Int))))]) rfl (by dsimp only [List.cons_append, List.nil_append]; tm_at "w") (.mk (ts ++ [T]) D3 (by rw [he, fC]) (jM uF ⟨hT, hh⟩) (by rw [List.length_append]; exact kH) (by rw [List.length_append]; exact hk))
 .intro acc ae C mc hI
  k_dflt obtain ⟨x3, y3, t0, t1, t2, rfl, nM, rfl, uF⟩ := three hI
  tm_at "v"
  refine ⟨_, _, by tm_at "p", ?_⟩
  tm_at "v"
  refine WE.list ?_
  tm_at "v"
  refine dw (n := n) ok nM (by tm_at "o") (by tm_at "p") (by tm_at "r") fun x5 y5 d L5 h0 h1 => ?_
  refine WB.add_int ?_
  obtain ⟨k, Lb, Lc⟩ : ∃ k : Nat, 2 + d = (k : Int) /\ 2 <= k := ⟨(2 + d).toNat, by tm_at "o", by tm_at "o"⟩
  have hP := Ef uF Lc
  refine .mk (xs := (sM t0 t1 t2).map fun p => fA (oS "f") [p.1, p.2]) k (congrArg AV.int Lb) (short rfl) (oH (congrArg AV.lst (List.map_take.symm.trans ub)) ?_)
  generalize (sM t0 t1 t2).take k = ps at hP
  tm_at "v"
  refine r6 (n := n) ok (by rw [List.length_map]; exact Nat.le_trans hP.ok.n (by decide)) (by tm_at "r") fun e => ?_
  tm_at "v"
  refine WK.uK (by tm_at "p") (Nat.le_of_ble_eq_true rfl) (by show (oS "main") ∉ [oS "f", oS "g"]; decide+kernel) ?_
  refine WS.seen (Seen.rK (ao.pick (a := L + 1 + 1) (by tm_at "p") (ao.pick (a := bd) (by tm_at "p") (ao.refl _)))) ?_
  have IK := Al (P := G.w.params) (F := F) (e := e) (cs := callsOf ps)
  have vj : ∀ t ∈ eJ, bH (nV G.w.params F e (callsOf ps)) t = some (bw G.w.params (DJ G.w.params F e (callsOf ps) t)) := fun t h => yC h
  have dW : (nV G.w.params F e (callsOf ps)).map (·.1) = eJ := rfl
  have uW : (nV G.w.params F e (callsOf ps)).length = 3 := rfl
  refine WS.weak (ag := (L + 1 + 1, .cell (some (ar G.w.params (nV G.w.params F e (callsOf ps))))) :: _) (ao.pick (a := L + 1 + 1) (by first | exact .here | exact .there .here) (ao.refl _)) ?_
  have Eg := fun e1 n1 => sL (P := G.w.params) (e0 := e) (cs := callsOf ps) hF e1 n1
  generalize nV G.w.params F e (callsOf ps) = bE at IK vj dW uW Eg ⊢
  tm_at "v"
  (refine W1.aP Str 1 [oS "path"] [(oS ".0", .local), (oS "path", .local), (oS "bodies", .cell)] _ ‹_› (by kernel_rfl) (by tm_at "dk") (by tm_at "dk") (by tm_at "lent") (by tm_at "dm") (by tm_at "dk") (by tm_at "m") (by tm_at "dk") ?_)
  tm_at "v"
  refine WC.eS ‹_› .d8 (by rw [uW]; tm_at "o") fun ss EU Ld => ?_
  rw [dW] at EU
  have lp : ∀ t ∈ ss, t ∈ eJ := fun t h => EU.mem_iff.mp h
  have IL : ss.length = 3 := EU.length_eq
  refine aL.fn (ts := ss) (e := .str) (e' := fun t => lg (DJ G.w.params F e (callsOf ps) t).bs) (au.seq ‹_› rfl) (by rw [IL, sizeLine_eq]; tm_at "o") (fun X' aF D C acc dC t cp => ?_) ?_
  .have Eh := lp t cp
   obtain ⟨Hl, Le, Hm⟩ := m9 hF hP (P := G.w.params) (e := e) Eh
   tm_at "turn"
   intro I o
   tm_at "v"
   (refine WE.aP eC 1 [oS "rows", oS "end"] [(oS ".0", .local), (oS "rows", .local), (oS "end", .local), (oS "list", .globalImplicit)] _ ‹_› (by kernel_rfl) (by tm_at "dk") (by tm_at "dk") (by tm_at "lent") (by tm_at "dm") (by tm_at "dk") ?_)
   tm_at "v"
   refine WB.item_dict .d8 (vj t Eh) ?_
   dsimp only [bw, iQ]
   tm_at "v"
   refine aL.fn (ts := (DJ G.w.params F e (callsOf ps) t).bs) (e := cO) (e' := fun b => .tup [.lst (b.1.map cD), bQ b.2]) (au.seq ‹_› rfl) (Nat.le_trans Hl (by decide)) (fun X' aF D C acc dC b B5 => ?_) ?_
   .have Lf := Hm b B5
    tm_at "turn"
    intro I o
    tm_at "v"
    refine WC.dK rfl (by rw [List.length_map, sizeLine_eq]; tm_at "o") ?_
    tm_at "v"
    tm_at "endturn"
   tm_at "v"
   tm_at "endturn"
  refine .mk (by tm_at "p") (by tm_at "put") ?_
  tm_at "v"
  refine oW (n := n) ok (by tm_at "r") ?_
  tm_at "v"
  refine Ah (n := n) ok ft hF hP.ok (e := e) IK (by tm_at "r") fun made done EV => ?_
  tm_at "v"
  refine W1.pz ?_ (vW eL (by tm_at "m")) (by rfl)
  (refine WE.aP Ty 1 [oS "T"] [(oS ".0", .local), (oS "T", .local), (oS "_law_closed", .globalImplicit)] _ ‹_› (by kernel_rfl) (by tm_at "dk") (by tm_at "dk") (by tm_at "lent") (by tm_at "dm") (by tm_at "dk") ?_)
  tm_at "v"
  refine aL.fn (ts := [t0, t1, t2]) (e := enc) (e' := fun T => enc (pl T)) (au.seq ‹_› rfl) (short rfl) (fun X' aF D C acc dC T hT => ?_) ?_
  .obtain ⟨Lg, Lh⟩ := uF T hT
   obtain ⟨p1, p2, p3, p4, p5⟩ := ib Lg Lh
   have hz := eF (k := 12) p2 (by tm_at "o")
   tm_at "turn"
   intro I o
   tm_at "v"
   refine WE.fin (WE.fQ fun dd => Fin.d8 (P := [(dd, .bj [])]) (.refl _) kL.dict ?_)
   tm_at "v"
   refine fY (tab := []) (k := 12) ok yk.ok hz.1 (by tm_at "r") ?_
   rw [hz.2]
   tm_at "endturn"
  dsimp only [List.map]
  tm_at "v"
  refine WE.fQ fun du => ?_
  tm_at "v"
  refine WE.list ?_
  tm_at "v"
  (refine WE.aP Nat 1 [oS "at"] [(oS ".0", .local), (oS "at", .local), (oS "plain_types", .cell)] _ ‹_› (by kernel_rfl) (by tm_at "dk") (by tm_at "dk") (by tm_at "lent") (by tm_at "dm") (by tm_at "dk") ?_)
  tm_at "v"
  refine WC.l3 ?_
  refine aL.fn (ts := [0, 1]) (e := fun i : Nat => .int (0 + (i : Int))) (e' := fun i => if i = 0 then sJ (oS "f", [pl t0, pl t1]) else sJ (oS "f", [pl t1, pl t2])) (au.range ‹_› (by decide) (by decide)) (short rfl) (fun X' aF D C acc dC i IM => ?_) ?_
  .simp only [List.mem_cons, List.not_mem_nil, or_false] at IM
   rcases IM with rfl | rfl
   all_goals
    tm_at "turn"
    intro I o
    tm_at "v"
    refine WB.add_int ?_
    tm_at "v"
    tm_at "endturn"
  refine WB.ez .lst .lst (short rfl) (oH (w := .lst ((gu t0 t1 t2).map sJ)) rfl ?_)
  tm_at "v"
  tm_at "st2"
  tm_at "v"
  refine W1.weak (ae := ET L a du zs x5 y5 (.lst [enc t0, enc t1, enc t2]) (.lst [enc (pl t0), enc (pl t1), enc (pl t2)]) (.lst ((gu t0 t1 t2).map sJ)) (ES t0 t1 t2) (.lst (ss.map fun t => lg (DJ G.w.params F e (callsOf ps) t).bs)) (ar G.w.params made) (ar G.w.params bE) Γ none none none none none []) (by tm_at "w") ?_
  refine W1.forL 1 (gu t0 t1 t2) sJ (IH G.w.params F e ps (ET L a du zs x5 y5 (.lst [enc t0, enc t1, enc t2]) (.lst [enc (pl t0), enc (pl t1), enc (pl t2)]) (.lst ((gu t0 t1 t2).map sJ)) (ES t0 t1 t2) (.lst (ss.map fun t => lg (DJ G.w.params F e (callsOf ps) t).bs)) (ar G.w.params made) (ar G.w.params bE) Γ)) ?_ ?_ ?_
  .tm_at "v"
   exact ⟨au.seq ‹_› rfl, .mk Hj⟩
  .intro X3 ae dn j todo e1 hI
   cases hI with | @mk pv sv tv kv yv es nT => ?_
   have EW := Cp (F := F) hP (j := j) (by rw [e1]; exact List.mem_append_right _ (.head _))
   have Ei := yF (P := G.w.params) (e := e) hF hP.ok EW.1
   have Li := vY EV EW.1
   have Lj := vj j.1 Ei.2.2
   have Lk := vj (oS "g") (by tm_at "dk")
   have IP : es.length <= 21 := Nat.le_trans nT.n (Nat.mul_le_mul_left 7 (m := 3) (Nat.le_trans (Nat.le_add_right _ _) (Nat.le_of_eq (by rw [<- List.length_append, <- e1]; rfl))))
   tm_at "turn"
   intro I o
   tm_at "v"
   refine WE.list ?_
   tm_at "v"
   refine WC.zip rfl rfl fun zv L6 hz => ?_
   tm_at "v"
   refine WC.jv (ts := [oS "A", oS "B"]) ‹_› hz rfl (short rfl) ?_
   refine oH (congrArg _ EW.2) ?_
   tm_at "v"
   refine WM.get .d8 ?_
   tm_at "v"
   refine p9 ok j.1 j.2 (m := 26) Ei.2.1 (by tm_at "o") (by tm_at "r") ?_
   tm_at "v"
   refine WB.item_dict .d8 Lk ?_
   tm_at "v"
   refine WC.Bs .d8 (oH (congrArg (Option.getD · _) Li) ?_)
   tm_at "v"
   refine WB.item_dict .d8 Lj ?_
   tm_at "v"
   have AU := Nat.le_trans (jQ (gE j) _) Ei.1.nB
   have hd : pj G.w.params F e ps (dn ++ [j]) (cU (bN es (cf j.1 j.2) (.raw (.bool true))) (ba (gE j) (DJ G.w.params F e (callsOf ps) j.1).bs)) := qE (gE j) _ ▸ yD hF hP.ok EW.1 nT
   refine ly (n := n) ok Ei.1 (by tm_at "r") ?_
   generalize ba (gE j) (DJ G.w.params F e (callsOf ps) j.1).bs = ks at AU hd ⊢
   tm_at "v"
   refine p9 ok j.1 j.2 (m := 26) Ei.2.1 (by tm_at "o") (by tm_at "r") ?_
   refine WK.dict (by tm_at "p") (Nat.le_trans IP (by decide)) ?_
   tm_at "v"
   have A7 : ((bN es (cf j.1 j.2) (.raw (.bool true))).map (·.1)).Nodup := m8 nT.nd
   have Ej : (bN es (cf j.1 j.2) (.raw (.bool true))).length <= 22 := Nat.le_trans kB (Nat.succ_le_succ IP)
   generalize bN es (cf j.1 j.2) (.raw (.bool true)) = CN at A7 Ej hd ⊢
   refine W1.weak (ae := II I o (ET L a du zs x5 y5 (.lst [enc t0, enc t1, enc t2]) (.lst [enc (pl t0), enc (pl t1), enc (pl t2)]) (.lst ((gu t0 t1 t2).map sJ)) (ES t0 t1 t2) (.lst (ss.map fun t => lg (DJ G.w.params F e (callsOf ps) t).bs)) (ar G.w.params made) (ar G.w.params bE) Γ (some (.str j.1)) (some (.tup (j.2.map enc))) (some (ar G.w.params (bF (gE j)))) (some (.lst (ks.map .str)))) yv CN) (by tm_at "w") ?_
   refine W1.forL 1 ks .str (IJ (II I o (ET L a du zs x5 y5 (.lst [enc t0, enc t1, enc t2]) (.lst [enc (pl t0), enc (pl t1), enc (pl t2)]) (.lst ((gu t0 t1 t2).map sJ)) (ES t0 t1 t2) (.lst (ss.map fun t => lg (DJ G.w.params F e (callsOf ps) t).bs)) (ar G.w.params made) (ar G.w.params bE) Γ (some (.str j.1)) (some (.tup (j.2.map enc))) (some (ar G.w.params (bF (gE j)))) (some (.lst (ks.map .str))))) CN) ?_ ?_ ?_
   .tm_at "v"
    exact ⟨au.seq ‹_› rfl, .mk⟩
   .intro X4 ae dk z tk k1 hI
    cases hI with | @mk Ll => ?_
    have L7 : dk.length <= 60 := Nat.le_trans (by rw [k1, List.length_append]; exact Nat.le_add_right _ _) AU
    have L8 := (lj dk CN A7).2.2
    tm_at "turn"
    intro I2 o2
    tm_at "v"
    refine WK.dict (by tm_at "p") (by rw [sizeLine_eq]; tm_at "o") ?_
    tm_at "v"
    exact Az (by rw [qI]; tm_at "turn"; tm_at "w") .mk
   .intro ae hI
    cases hI with | @mk Ll => ?_
    tm_at "v"
    exact Az (by tm_at "turn"; tm_at "w") (.mk hd)
  .intro ae hI
   cases hI with | @mk pv sv tv kv yv es nT => ?_
   have Ek := vX hF hP.ok hP.all hP.m1 hP.m2 nT EV
   have Gz : es.length <= 21 := nT.n
   have ID := vZ EV
   tm_at "v"
   refine WC.eS ‹_› (.own (by tm_at "p")) (by tm_at "o") fun sa Lm Hn => ?_
   tm_at "v"
   refine WC.eS ‹_› .d8 (by tm_at "o") fun sb ue Ho => ?_
   cases mj (Lm.trans (Ek.trans ue.symm)) Hn Ho
   refine WB.jP ‹_› (yG hF hP.ok EV ue) ?_
   tm_at "v"
   (refine WE.aP Str 1 [oS "path"] [(oS ".0", .local), (oS "path", .local), (oS "bodies", .cell)] _ ‹_› (by kernel_rfl) (by tm_at "dk") (by tm_at "dk") (by tm_at "lent") (by tm_at "dm") (by tm_at "dk") ?_)
   tm_at "v"
   refine WC.eS ‹_› .d8 (by rw [uW]; tm_at "o") fun sc IQ Hp => ?_
   rw [dW] at IQ
   cases mj (IQ.trans EU.symm) Hp Ld
   refine aL.fn (ts := ss) (e := .str) (e' := fun t => lg (DJ G.w.params F e (callsOf ps) t).bs) (au.seq ‹_› rfl) (by rw [IL, sizeLine_eq]; tm_at "o") (fun X' aF D C acc dC t cp => ?_) ?_
   .have Eh := lp t cp
    obtain ⟨Hl, Le, Hm⟩ := m9 hF hP (P := G.w.params) (e := e) Eh
    have Ln := vj t Eh
    tm_at "turn"
    intro I o
    tm_at "v"
    (refine WE.aP eC 1 [oS "rows", oS "end"] [(oS ".0", .local), (oS "rows", .local), (oS "end", .local), (oS "list", .globalImplicit)] _ ‹_› (by kernel_rfl) (by tm_at "dk") (by tm_at "dk") (by tm_at "lent") (by tm_at "dm") (by tm_at "dk") ?_)
    tm_at "v"
    refine WB.item_dict .d8 Ln ?_
    dsimp only [bw, iQ]
    tm_at "v"
    refine aL.fn (ts := (DJ G.w.params F e (callsOf ps) t).bs) (e := cO) (e' := fun b => .tup [.lst (b.1.map cD), bQ b.2]) (au.seq ‹_› rfl) (Nat.le_trans Hl (by decide)) (fun X' aF D C acc dC b B5 => ?_) ?_
    .have Lf := Hm b B5
     tm_at "turn"
     intro I o
     tm_at "v"
     refine WC.dK rfl (by rw [List.length_map, sizeLine_eq]; tm_at "o") ?_
     tm_at "v"
     tm_at "endturn"
    tm_at "v"
    tm_at "endturn"
   tm_at "v"
   refine WB.jP ‹_› ((fE (k := 20) fun y hy => by
    obtain ⟨t, cL, rfl⟩ := List.mem_map.mp hy
    exact (m9 hF hP (lp t cL)).2.1).mono (by tm_at "o")) ?_
   tm_at "v"
   refine jb (n := n) ok (FX.enter hIn fx eL.kind (by tm_at "m") (by tm_at "memh")) (by rw [uW]; tm_at "o") (by rw [dW]; decide+kernel) Eg (by tm_at "r") ?_
   tm_at "fq"
end
end
end Mine
set_option tactic.hygienic true
open PySem PySem.W PyProof.Rows PySem.Calls
open PySem.Str renaming ofString → oS
open PySem PySem.W PyProof.Rows PySem.Calls
namespace Mine
def v7 {V : Addr -> Prop} {h : Heap} {vs : List Value} {ns : List Int} (hI : IntsAre vs ns) : ah V h vs (ns.map AV.int) := by
 induction hI with
 | nil => exact .nil
 | cons n t _ ih => exact .cons (.int _ _) ih
section
variable {p : Program} {loose : List Str} {Hq : ExcName -> Option Value} {w : World} {mg mb : Str -> Option Value} {s : Shared}
def yI {h : Heap} (KX : (Mine.O.K w.params).In h) (KT : ∀ P ∈ [226], h.get? P = some (tabObj #[])) : ∀ b ∈ [226], ∃ c ps, h.TableAt c b ps := fun b hb => by
 cases List.mem_singleton.mp hb
 obtain ⟨o, vs, file, tf, flags, tg, L9, text, tt, f1, f2, f3, f4, _⟩ := codeHd_of_K (c := 228) (P := 226) KX (by kernel_rfl)
 exact ⟨228, #[], ⟨o, vs, f1, f2, f3, f4⟩, KT 226 (.head _)⟩
noncomputable def Am (pr : Program) (KX : (Mine.O.K w.params).In s.heap) (KT : ∀ P ∈ [226], s.heap.get? P = some (tabObj #[])) (T : Top p loose Hq mg mb s.heap) : Base where
 prog := pr
 w := w
 h := s.heap
 ts := [226]
 tP := Dy uE xR
 os := s.os
 K := Mine.O.K w.params
 sO := yI KX KT
 iC := fun a o e => ⟨KX a o e, fun hm => by
  cases List.mem_singleton.mp hm
  have h0 : (Mine.O.K w.params).lookup 226 = none := by kernel_rfl
  rw [h0] at e; cases e⟩
 mg := mg
 mb := mb
 Ba := T.g
 yS := by decide +kernel
 En := T.b
 Eo := by decide +kernel
 lim := T.nolimit
 Ep := by decide +kernel
end
end Mine
theorem PySem.Challenge.cw_ot0038_01_holds : PySem.Challenge.rw_ot0038_01.Holds := by
 refine Mine.O.hd ?_
 intro w s₀ ay mg mb G Y fa o pm cd doc dV kV ho u7 gG hD Hr hg args vals as Hs BP Lo CK Fj
 have KX := km_in_of Y
 have KT := km_tabs_of Y
 refine Ground.open G ?_
 intro T B D TE TW
 clear ho u7 gG hD
 replace Hr : mg (oS "law") = some (.ref fa) := Hr
 have Lp : fa = 644 := by
  have e := mg_of (n := oS "law") (v := .ref 644) KX T.g (by kernel_rfl)
  rw [Hr] at e; cases e; rfl
 subst Lp
 wrow_args Hs BP Lo CK Fj
 rename_i ns hs IS Ma Mb EK Mc Md l vs Me hL ra w1 r0 hI hr DU DV
 let B0 : Mine.Base := Mine.Am (s := ay) PySem.Challenge.rw_ot0038_01.row.prog KX KT T
 have ok : Mine.Ok B0 := ⟨rfl, T.builtins⟩
 have Cq : ay.heap.get? 226 = some (tabObj #[]) := KT 226 (.head _)
 have ft : Mine.cb B0 := by
  refine ⟨rfl, codeHd_of_K KX (by kernel_rfl), rfl, ?_, by decide +kernel⟩
  obtain ⟨bm, ob, a, b, c, d, e, f⟩ := T.bmain
  refine ⟨bm, ob, a, b, fun q => ?_, fun q => ?_, c, d, e, f⟩
  .obtain ⟨o, es, ep, e1, e2, _⟩ := T.g
   rw [q, e1] at c; cases c; rw [f] at e2; cases e2
  .rw [q, Cq] at c; cases c; cases d
 have S : Mine.aM B0 [] ay := by
  refine ⟨.refl _, fun b o e _ => e, fun b hb => ?_, fun p hp => (nomatch hp), List.nodup_nil, fun p hp => (nomatch hp), hg, rfl⟩
  cases List.mem_singleton.mp hb
  exact ⟨#[], Cq, .inl rfl⟩
 have hl : ay.heap.get? l = some { cls := .type "list", data := .seq vs.toArray } := by
  have Lq : Well w.params ay.heap (.ref l) (.list (ofPys (ns.map PyData.int))) := w1
  cases Lq with
  | list e _ =>
   obtain ⟨o, ho, _, n, hd2⟩ := hL
   rw [e] at ho; cases ho
   simp only [Data.seq.injEq] at hd2
   rw [e, hd2.1]
 have hn : ¬ Mine.bc B0 [] l := fun q => by
  rcases q with q | q
  .cases List.mem_singleton.mp q
   rw [Cq] at hl; cases hl
  .cases q
 have rep : Mine.Rep (Mine.bc B0 []) ay.heap (.ref l) (.lst (ns.map Mine.AV.int)) := .lst (n := 0) hl hn (Mine.v7 hI)
 have fx : Mine.FX callerA [] := ⟨[], rfl, fun env he => nomatch he⟩
 have hR : Mine.aj callerA (0 + 200) := ⟨by decide +kernel, by decide +kernel, rfl⟩
 have main := (Mine.yH (G := B0) (A := callerA) (Γ := []) (n := 0) (X := fun e s' => GoodWG PySem.Challenge.rw_ot0038_01.row.claim (classAt s₀.heap) (ExcName.means s₀.heap) [ofPy (PyData.list (ns.map PyData.int))] ay (.error e) s')
  (Q := fun v _ => v = .raw (.bool true)) ok ft fx (zs := ns) (by omega) hR rfl).go ay [.ref l] S (.cons rep .nil)
 refine wpAny_mono main (fun v s' ⟨b, ae, r, S', T', q⟩ => ?_) fun _ _ e => e
 subst q
 cases r.inv
 refine ⟨.inl ⟨_, .bool true, [], rfl, fun _ => rfl, .bool _, ?_, fun _ => ⟨List.nodup_nil, fun a ha => nomatch ha⟩⟩, S'.old, S'.os, .of_eq S'.gens⟩
 first | rfl | kernel_rfl | (simp [PySem.W.RowW.claim]; done) | skip
