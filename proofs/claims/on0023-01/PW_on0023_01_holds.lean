import PyProof.Rows.All
import Wide.All
import OpenK.AllK
import Wide.FinOn
import Lean
import PySem.Challenge.RW_on0023_01
open PySem PySem.W PyProof.Rows
set_option Elab.async false
set_option maxRecDepth 100000
set_option linter.all false
set_option maxHeartbeats 0
namespace Mine
section
noncomputable def nthS : Nat → List Stmt → Option Stmt
  | _, [] => none
  | 0, s :: _ => some s
  | n + 1, _ :: r => nthS n r
noncomputable def pb (n : Nat) : Option Stmt := nthS n PySem.Challenge.pw_on0023_01.main.body
noncomputable def cm (n k : Nat) : Option Stmt := match pb n with
  | some (.ClassDef _ _ _ b _ _ _ _ _ _ _) => nthS k b
  | _ => none
noncomputable def vs (s : String) (t : Nat) : Value := .str (Str.ofString s) t
noncomputable def de (P : Params) (s : String) (t : Nat) (v : Value) : DictEntry := { hash := PyData.keyHash P (Str.ofString s), key := .str (Str.ofString s) t, val := v }
noncomputable def tp (l : List Value) : Obj := { cls := .type "tuple", data := .seq l.toArray }
noncomputable def fl (c : String) (l : List Value) : Obj := { cls := .type c, data := .fields l.toArray }
noncomputable def dc (c : Value) (l : List DictEntry) (n : Nat) : Obj := { cls := c, data := .dict l.toArray n }
noncomputable def fo (st : Option Stmt) (q : String) (d : Value) (m : String) (t c : Nat) : Obj := match st with
  | some (.FunctionDef n args body _ _ _ scope _ _ _) => { cls := .type "function", data := .func { name := n, qualname := Str.ofString q, params := args, body := .stmts body, scope := scope, globals := 3, closure := [], defaults := d, kwdefaults := .none, pyModule := vs m t, code := .ref c } }
  | _ => { cls := .none }
noncomputable def KF : Params → Frag := fun P => [(2, dc (.none) [de P "type.__subclasses__.Exception.0" 224 (.int 39 0), de P "type.__subclasses__.Exception.n" 225 (.int 1 0)] 2),
  (3, dc (.type "dict") [de P "__name__" 165 (vs "law_on0023_01" 577), de P "__doc__" 166 (.none), de P "__package__" 167 (.none), de P "__loader__" 168 (.builtin "__main__.__loader__#opaque"), de P "__spec__" 169 (.none), de P "__annotations__" 170 (.ref 6), de P "__builtins__" 171 (.ref 4), de P "__file__" 173 (vs "/claim/cut.py" 172), de P "__cached__" 174 (.none), de P "_wall" 193 (.ref 21), de P "ChanError" 227 (.ref 39), de P "NameFault" 243 (.ref 52), de P "TypeFault" 259 (.ref 64), de P "Reached" 292 (.ref 83), de P "without_pointer" 299 (.ref 94), de P "own_methods" 307 (.ref 101), de P "members_at" 313 (.ref 106), de P "embedded_in" 326 (.ref 113), de P "Levels" 368 (.ref 137), de P "start_type" 378 (.ref 148), de P "find_member" 391 (.ref 155), de P "names_of_methods" 407 (.ref 162), de P "member_or_none" 416 (.ref 169), de P "is_in_set" 422 (.ref 174), de P "method_set" 435 (.ref 181), de P "lack_of" 446 (.ref 188), de P "implements" 458 (.ref 195), de P "satisfied" 467 (.ref 202), de P "PLAIN" 471 (.ref 205), de P "NamedRow" 506 (.ref 222), de P "known_rows" 518 (.ref 233), de P "World" 576 (.ref 265), de P "_law_pool" 589 (.ref 276), de P "_law_take" 598 (.ref 283), de P "_law_one" 606 (.ref 290), de P "_law_sorts" 612 (.ref 297), de P "_law_number" 615 (.ref 298), de P "_law_holder" 618 (.ref 299), de P "_law_marks" 628 (.ref 306), de P "_law_built" 634 (.ref 311), de P "_law_seen" 648 (.ref 318), de P "_law_due" 658 (.ref 325), de P "_law_asked" 664 (.ref 330), de P "_law_is_so" 674 (.ref 337), de P "law" 696 (.ref 344)] 45),
  (15, tp []),
  (17, tp [vs "k" 190]),
  (18, tp []),
  (20, fl "code" [vs "_wall" 187, vs "_wall" 188, vs "/claim/cut.py" 189, .int 1 0, .int 1 0, .int 0 0, .int 0 0, .int 3 0, .ref 15, .bool true, .int 181 0, .ref 16, .none, .ref 17, .ref 18, .ref 19, .int 191 0, .int 1 0, vs "/claim/cut.py" 192]),
  (21, fo (pb 0) "_wall" (.none) "__main__" 164 20),
  (22, tp [.type "Exception"]),
  (29, tp [.int 0 208]),
  (30, tp []),
  (32, tp [vs "self" 212, vs "message" 213, vs "spot" 214]),
  (33, tp []),
  (35, fl "code" [vs "__init__" 209, vs "ChanError.__init__" 210, vs "/claim/cut.py" 211, .int 7 0, .int 3 0, .int 0 0, .int 0 0, .int 3 0, .ref 30, .bool true, .int 181 0, .ref 31, .none, .ref 32, .ref 33, .ref 34, .int 215 0, .int 7 0, vs "/claim/cut.py" 216]),
  (36, fo (cm 2 0) "ChanError.__init__" (.ref 29) "chancore.errors" 194 35),
  (37, tp [vs "message" 218, vs "spot" 219]),
  (38, dc (.type "dict") [de P "__module__" 203 (vs "chancore.errors" 194), de P "__firstlineno__" 207 (.int 5 206), de P "__init__" 217 (.ref 36), de P "__static_attributes__" 220 (.ref 37), de P "__weakref__" 222 (.ref 40), de P "__doc__" 223 (.none)] 3),
  (39, { cls := .type "type", data := Data.cls { name := Str.ofString "ChanError", bases := [.type "Exception"], mro := [.ref 39, .type "Exception", .type "BaseException", .type "object"], ns := 38, qualname := Str.ofString "ChanError", subclasses := [.ref 52, .ref 64] }, slots := #[some (.ref 22), none, some (vs "ChanError" 196), some (vs "ChanError" 204), some (.builtin "Exception.__new__"), some (.bool true)] }),
  (40, fl "getset_descriptor" [vs "__weakref__" 221, .ref 39, .builtin "ExceptionGroup.__weakref__", .none]),
  (43, tp [.ref 39]),
  (50, tp []),
  (51, dc (.type "dict") [de P "__module__" 235 (vs "chancore.errors" 194), de P "__firstlineno__" 239 (.int 11 238), de P "__static_attributes__" 240 (.ref 50), de P "__doc__" 241 (.none)] 2),
  (52, { cls := .type "type", data := Data.cls { name := Str.ofString "NameFault", bases := [.ref 39], mro := [.ref 52, .ref 39, .type "Exception", .type "BaseException", .type "object"], ns := 51, qualname := Str.ofString "NameFault" }, slots := #[some (.ref 43), none, some (vs "NameFault" 228), some (vs "NameFault" 236), some (.builtin "Exception.__new__"), some (.bool true)] }),
  (55, tp [.ref 39]),
  (62, tp []),
  (63, dc (.type "dict") [de P "__module__" 251 (vs "chancore.errors" 194), de P "__firstlineno__" 255 (.int 13 254), de P "__static_attributes__" 256 (.ref 62), de P "__doc__" 257 (.none)] 2),
  (64, { cls := .type "type", data := Data.cls { name := Str.ofString "TypeFault", bases := [.ref 39], mro := [.ref 64, .ref 39, .type "Exception", .type "BaseException", .type "object"], ns := 63, qualname := Str.ofString "TypeFault" }, slots := #[some (.ref 55), none, some (vs "TypeFault" 244), some (vs "TypeFault" 252), some (.builtin "Exception.__new__"), some (.bool true)] }),
  (74, tp []),
  (76, tp [vs "self" 277, vs "told" 278, vs "steps" 279]),
  (77, tp []),
  (79, fl "code" [vs "__init__" 274, vs "Reached.__init__" 275, vs "/claim/cut.py" 276, .int 18 0, .int 3 0, .int 0 0, .int 0 0, .int 3 0, .ref 74, .bool true, .int 181 0, .ref 75, .none, .ref 76, .ref 77, .ref 78, .int 280 0, .int 18 0, vs "/claim/cut.py" 281]),
  (80, fo (cm 6 0) "Reached.__init__" (.none) "chancore.lookup" 260 79),
  (81, tp [vs "steps" 283, vs "told" 284]),
  (82, dc (.type "dict") [de P "__module__" 269 (vs "chancore.lookup" 260), de P "__firstlineno__" 273 (.int 16 272), de P "__init__" 282 (.ref 80), de P "__static_attributes__" 285 (.ref 81), de P "__dict__" 287 (.ref 84), de P "__weakref__" 289 (.ref 85), de P "__doc__" 290 (.none)] 4),
  (83, { cls := .type "type", data := Data.cls { name := Str.ofString "Reached", bases := [.type "object"], mro := [.ref 83, .type "object"], ns := 82, qualname := Str.ofString "Reached" }, slots := #[none, none, some (vs "Reached" 262), some (vs "Reached" 270), some (.builtin "object.__new__"), some (.bool true)] }),
  (84, fl "getset_descriptor" [vs "__dict__" 286, .ref 83, .builtin "function.__dict__", .builtin "function.__dict__#set"]),
  (85, fl "getset_descriptor" [vs "__weakref__" 288, .ref 83, .builtin "ExceptionGroup.__weakref__", .none]),
  (88, tp []),
  (90, tp [vs "told" 296]),
  (91, tp []),
  (93, fl "code" [vs "without_pointer" 293, vs "without_pointer" 294, vs "/claim/cut.py" 295, .int 21 0, .int 1 0, .int 0 0, .int 0 0, .int 3 0, .ref 88, .bool true, .int 181 0, .ref 89, .none, .ref 90, .ref 91, .ref 92, .int 297 0, .int 21 0, vs "/claim/cut.py" 298]),
  (94, fo (pb 7) "without_pointer" (.none) "chancore.lookup" 260 93),
  (95, tp []),
  (97, tp [vs "world" 303, vs "told" 304]),
  (98, tp []),
  (100, fl "code" [vs "own_methods" 300, vs "own_methods" 301, vs "/claim/cut.py" 302, .int 23 0, .int 2 0, .int 0 0, .int 0 0, .int 3 0, .ref 95, .bool true, .int 181 0, .ref 96, .none, .ref 97, .ref 98, .ref 99, .int 305 0, .int 23 0, vs "/claim/cut.py" 306]),
  (101, fo (pb 8) "own_methods" (.none) "chancore.lookup" 260 100),
  (102, tp []),
  (105, fl "code" [vs "members_at" 308, vs "members_at" 309, vs "/claim/cut.py" 310, .int 25 0, .int 3 0, .int 0 0, .int 0 0, .int 3 0, .ref 102, .bool true, .int 181 0, .ref 103, .none, .none, .none, .ref 104, .int 311 0, .int 25 0, vs "/claim/cut.py" 312]),
  (106, fo (pb 9) "members_at" (.none) "chancore.lookup" 260 105),
  (107, tp []),
  (109, tp [vs "world" 317, vs "reached" 318, vs "base" 319, vs "found" 320, vs "k" 321, vs "row" 322, vs "is_pointer" 323]),
  (110, tp []),
  (112, fl "code" [vs "embedded_in" 314, vs "embedded_in" 315, vs "/claim/cut.py" 316, .int 39 0, .int 2 0, .int 0 0, .int 0 0, .int 3 0, .ref 107, .bool true, .int 181 0, .ref 108, .none, .ref 109, .ref 110, .ref 111, .int 324 0, .int 39 0, vs "/claim/cut.py" 325]),
  (113, fo (pb 10) "embedded_in" (.none) "chancore.lookup" 260 112),
  (121, tp []),
  (123, tp [vs "self" 342, vs "world" 343, vs "told" 344]),
  (124, tp []),
  (126, fl "code" [vs "__init__" 339, vs "Levels.__init__" 340, vs "/claim/cut.py" 341, .int 49 0, .int 3 0, .int 0 0, .int 0 0, .int 3 0, .ref 121, .bool true, .int 181 0, .ref 122, .none, .ref 123, .ref 124, .ref 125, .int 345 0, .int 49 0, vs "/claim/cut.py" 346]),
  (127, fo (cm 11 0) "Levels.__init__" (.none) "chancore.lookup" 260 126),
  (128, tp []),
  (130, tp [vs "self" 351, vs "reached" 352, vs "later" 353, vs "inner" 354]),
  (131, tp []),
  (133, fl "code" [vs "go_on" 348, vs "Levels.go_on" 349, vs "/claim/cut.py" 350, .int 54 0, .int 1 0, .int 0 0, .int 0 0, .int 3 0, .ref 128, .bool true, .int 181 0, .ref 129, .none, .ref 130, .ref 131, .ref 132, .int 355 0, .int 54 0, vs "/claim/cut.py" 356]),
  (134, fo (cm 11 1) "Levels.go_on" (.none) "chancore.lookup" 260 133),
  (135, tp [vs "here" 358, vs "seen" 359, vs "world" 360]),
  (136, dc (.type "dict") [de P "__module__" 334 (vs "chancore.lookup" 260), de P "__firstlineno__" 338 (.int 47 337), de P "__init__" 347 (.ref 127), de P "go_on" 357 (.ref 134), de P "__static_attributes__" 361 (.ref 135), de P "__dict__" 363 (.ref 138), de P "__weakref__" 365 (.ref 139), de P "__doc__" 366 (.none)] 4),
  (137, { cls := .type "type", data := Data.cls { name := Str.ofString "Levels", bases := [.type "object"], mro := [.ref 137, .type "object"], ns := 136, qualname := Str.ofString "Levels" }, slots := #[none, none, some (vs "Levels" 327), some (vs "Levels" 335), some (.builtin "object.__new__"), some (.bool true)] }),
  (138, fl "getset_descriptor" [vs "__dict__" 362, .ref 137, .builtin "function.__dict__", .builtin "function.__dict__#set"]),
  (139, fl "getset_descriptor" [vs "__weakref__" 364, .ref 137, .builtin "ExceptionGroup.__weakref__", .none]),
  (142, tp []),
  (144, tp [vs "world" 372, vs "told" 373, vs "inner" 374, vs "base" 375]),
  (145, tp []),
  (147, fl "code" [vs "start_type" 369, vs "start_type" 370, vs "/claim/cut.py" 371, .int 64 0, .int 2 0, .int 0 0, .int 0 0, .int 3 0, .ref 142, .bool true, .int 181 0, .ref 143, .none, .ref 144, .ref 145, .ref 146, .int 376 0, .int 64 0, vs "/claim/cut.py" 377]),
  (148, fo (pb 12) "start_type" (.none) "chancore.lookup" 260 147),
  (149, tp []),
  (151, tp [vs "world" 382, vs "told" 383, vs "name" 384, vs "begun" 385, vs "levels" 386, vs "found" 387, vs "reached" 388]),
  (152, tp []),
  (154, fl "code" [vs "find_member" 379, vs "find_member" 380, vs "/claim/cut.py" 381, .int 72 0, .int 3 0, .int 0 0, .int 0 0, .int 3 0, .ref 149, .bool true, .int 181 0, .ref 150, .none, .ref 151, .ref 152, .ref 153, .int 389 0, .int 72 0, vs "/claim/cut.py" 390]),
  (155, fo (pb 13) "find_member" (.none) "chancore.lookup" 260 154),
  (156, tp []),
  (158, tp [vs "world" 397, vs "told" 398, vs "levels" 399, vs "found" 400, vs "reached" 401, vs "base" 402, vs "name" 403, vs "func" 404]),
  (159, tp []),
  (161, fl "code" [vs "names_of_methods" 394, vs "names_of_methods" 395, vs "/claim/cut.py" 396, .int 88 0, .int 2 0, .int 0 0, .int 0 0, .int 3 0, .ref 156, .bool true, .int 181 0, .ref 157, .none, .ref 158, .ref 159, .ref 160, .int 405 0, .int 88 0, vs "/claim/cut.py" 406]),
  (162, fo (pb 15) "names_of_methods" (.none) "chancore.method_sets" 392 161),
  (163, tp []),
  (165, tp [vs "world" 411, vs "told" 412, vs "name" 413]),
  (166, tp []),
  (168, fl "code" [vs "member_or_none" 408, vs "member_or_none" 409, vs "/claim/cut.py" 410, .int 99 0, .int 3 0, .int 0 0, .int 0 0, .int 3 0, .ref 163, .bool true, .int 181 0, .ref 164, .none, .ref 165, .ref 166, .ref 167, .int 414 0, .int 99 0, vs "/claim/cut.py" 415]),
  (169, fo (pb 16) "member_or_none" (.none) "chancore.method_sets" 392 168),
  (170, tp []),
  (173, fl "code" [vs "is_in_set" 417, vs "is_in_set" 418, vs "/claim/cut.py" 419, .int 104 0, .int 2 0, .int 0 0, .int 0 0, .int 3 0, .ref 170, .bool true, .int 181 0, .ref 171, .none, .none, .none, .ref 172, .int 420 0, .int 104 0, vs "/claim/cut.py" 421]),
  (174, fo (pb 17) "is_in_set" (.none) "chancore.method_sets" 392 173),
  (175, tp []),
  (177, tp [vs "world" 426, vs "told" 427, vs "begun" 428, vs "found" 429, vs "name" 430, vs "member" 431, vs "key" 432]),
  (178, tp []),
  (180, fl "code" [vs "method_set" 423, vs "method_set" 424, vs "/claim/cut.py" 425, .int 108 0, .int 2 0, .int 0 0, .int 0 0, .int 3 0, .ref 175, .bool true, .int 181 0, .ref 176, .none, .ref 177, .ref 178, .ref 179, .int 433 0, .int 108 0, vs "/claim/cut.py" 434]),
  (181, fo (pb 18) "method_set" (.none) "chancore.method_sets" 392 180),
  (182, tp []),
  (184, tp [vs "world" 439, vs "told" 440, vs "name" 441, vs "func" 442, vs "others" 443]),
  (185, tp []),
  (187, fl "code" [vs "lack_of" 436, vs "lack_of" 437, vs "/claim/cut.py" 438, .int 118 0, .int 4 0, .int 0 0, .int 0 0, .int 3 0, .ref 182, .bool true, .int 181 0, .ref 183, .none, .ref 184, .ref 185, .ref 186, .int 444 0, .int 118 0, vs "/claim/cut.py" 445]),
  (188, fo (pb 19) "lack_of" (.none) "chancore.method_sets" 392 187),
  (189, tp []),
  (191, tp [vs "world" 450, vs "told" 451, vs "wanted" 452, vs "methods" 453, vs "name" 454, vs "func" 455]),
  (192, tp []),
  (194, fl "code" [vs "implements" 447, vs "implements" 448, vs "/claim/cut.py" 449, .int 124 0, .int 3 0, .int 0 0, .int 0 0, .int 3 0, .ref 189, .bool true, .int 181 0, .ref 190, .none, .ref 191, .ref 192, .ref 193, .int 456 0, .int 124 0, vs "/claim/cut.py" 457]),
  (195, fo (pb 20) "implements" (.none) "chancore.method_sets" 392 194),
  (196, tp []),
  (198, tp [vs "world" 462, vs "told" 463, vs "wanted" 464]),
  (199, tp []),
  (201, fl "code" [vs "satisfied" 459, vs "satisfied" 460, vs "/claim/cut.py" 461, .int 132 0, .int 3 0, .int 0 0, .int 0 0, .int 3 0, .ref 196, .bool true, .int 181 0, .ref 197, .none, .ref 198, .ref 199, .ref 200, .int 465 0, .int 132 0, vs "/claim/cut.py" 466]),
  (202, fo (pb 21) "satisfied" (.none) "chancore.method_sets" 392 201),
  (203, tp []),
  (204, tp []),
  (205, tp [vs "func" 470, .ref 203, .ref 204, .bool false]),
  (213, tp []),
  (215, tp [vs "self" 487, vs "path" 488, vs "package" 489, vs "underlying" 490, vs "methods" 491]),
  (216, tp []),
  (218, fl "code" [vs "__init__" 484, vs "NamedRow.__init__" 485, vs "/claim/cut.py" 486, .int 138 0, .int 5 0, .int 0 0, .int 0 0, .int 3 0, .ref 213, .bool true, .int 181 0, .ref 214, .none, .ref 215, .ref 216, .ref 217, .int 492 0, .int 138 0, vs "/claim/cut.py" 493]),
  (219, fo (cm 24 0) "NamedRow.__init__" (.none) "chancore.world" 468 218),
  (220, tp [vs "methods" 495, vs "package" 496, vs "path" 497, vs "underlying" 498]),
  (221, dc (.type "dict") [de P "__module__" 479 (vs "chancore.world" 468), de P "__firstlineno__" 483 (.int 136 482), de P "__init__" 494 (.ref 219), de P "__static_attributes__" 499 (.ref 220), de P "__dict__" 501 (.ref 223), de P "__weakref__" 503 (.ref 224), de P "__doc__" 504 (.none)] 4),
  (222, { cls := .type "type", data := Data.cls { name := Str.ofString "NamedRow", bases := [.type "object"], mro := [.ref 222, .type "object"], ns := 221, qualname := Str.ofString "NamedRow" }, slots := #[none, none, some (vs "NamedRow" 472), some (vs "NamedRow" 480), some (.builtin "object.__new__"), some (.bool true)] }),
  (223, fl "getset_descriptor" [vs "__dict__" 500, .ref 222, .builtin "function.__dict__", .builtin "function.__dict__#set"]),
  (224, fl "getset_descriptor" [vs "__weakref__" 502, .ref 222, .builtin "ExceptionGroup.__weakref__", .none]),
  (227, tp []),
  (229, tp [vs "text" 510, vs "adding" 511, vs "held" 512, vs "told" 513, vs "locks" 514, vs "waits" 515]),
  (230, tp []),
  (232, fl "code" [vs "known_rows" 507, vs "known_rows" 508, vs "/claim/cut.py" 509, .int 143 0, .int 0 0, .int 0 0, .int 0 0, .int 3 0, .ref 227, .bool true, .int 181 0, .ref 228, .none, .ref 229, .ref 230, .ref 231, .int 516 0, .int 143 0, vs "/claim/cut.py" 517]),
  (233, fo (pb 25) "known_rows" (.none) "chancore.world" 468 232),
  (241, tp [.none]),
  (242, tp []),
  (244, tp [vs "self" 534, vs "packages" 535]),
  (245, tp []),
  (247, fl "code" [vs "__init__" 531, vs "World.__init__" 532, vs "/claim/cut.py" 533, .int 153 0, .int 2 0, .int 0 0, .int 0 0, .int 3 0, .ref 242, .bool true, .int 181 0, .ref 243, .none, .ref 244, .ref 245, .ref 246, .int 536 0, .int 153 0, vs "/claim/cut.py" 537]),
  (248, fo (cm 26 0) "World.__init__" (.ref 241) "chancore.world" 468 247),
  (249, tp []),
  (251, tp [vs "self" 542, vs "told" 543, vs "row" 544]),
  (252, tp []),
  (254, fl "code" [vs "base_of" 539, vs "World.base_of" 540, vs "/claim/cut.py" 541, .int 168 0, .int 2 0, .int 0 0, .int 0 0, .int 3 0, .ref 249, .bool true, .int 181 0, .ref 250, .none, .ref 251, .ref 252, .ref 253, .int 545 0, .int 168 0, vs "/claim/cut.py" 546]),
  (255, fo (cm 26 1) "World.base_of" (.none) "chancore.world" 468 254),
  (256, tp []),
  (258, tp [vs "self" 551, vs "entry" 552]),
  (259, tp []),
  (261, fl "code" [vs "settled" 548, vs "World.settled" 549, vs "/claim/cut.py" 550, .int 180 0, .int 2 0, .int 0 0, .int 0 0, .int 3 0, .ref 256, .bool true, .int 181 0, .ref 257, .none, .ref 258, .ref 259, .ref 260, .int 553 0, .int 180 0, vs "/claim/cut.py" 554]),
  (262, fo (cm 26 2) "World.settled" (.none) "chancore.world" 468 261),
  (263, tp [vs "bodies" 556, vs "consts" 557, vs "files" 558, vs "funcs" 559, vs "globals" 560, vs "is_whole" 561, vs "late_keys" 562, vs "named" 563, vs "order" 564, vs "packages" 565, vs "scopes" 566, vs "settle" 567, vs "starts" 568]),
  (264, dc (.type "dict") [de P "__module__" 526 (vs "chancore.world" 468), de P "__firstlineno__" 530 (.int 151 529), de P "__init__" 538 (.ref 248), de P "base_of" 547 (.ref 255), de P "settled" 555 (.ref 262), de P "__static_attributes__" 569 (.ref 263), de P "__dict__" 571 (.ref 266), de P "__weakref__" 573 (.ref 267), de P "__doc__" 574 (.none)] 4),
  (265, { cls := .type "type", data := Data.cls { name := Str.ofString "World", bases := [.type "object"], mro := [.ref 265, .type "object"], ns := 264, qualname := Str.ofString "World" }, slots := #[none, none, some (vs "World" 519), some (vs "World" 527), some (.builtin "object.__new__"), some (.bool true)] }),
  (266, fl "getset_descriptor" [vs "__dict__" 570, .ref 265, .builtin "function.__dict__", .builtin "function.__dict__#set"]),
  (267, fl "getset_descriptor" [vs "__weakref__" 572, .ref 265, .builtin "ExceptionGroup.__weakref__", .none]),
  (270, tp []),
  (272, tp [vs "script" 582, vs "k" 583, vs "cell" 584, vs "big" 585, vs "mixed" 586]),
  (273, tp []),
  (275, fl "code" [vs "_law_pool" 579, vs "_law_pool" 580, vs "/claim/cut.py" 581, .int 183 0, .int 2 0, .int 0 0, .int 0 0, .int 3 0, .ref 270, .bool true, .int 181 0, .ref 271, .none, .ref 272, .ref 273, .ref 274, .int 587 0, .int 183 0, vs "/claim/cut.py" 588]),
  (276, fo (pb 28) "_law_pool" (.none) "law_on0023_01" 577 275),
  (277, tp []),
  (279, tp [vs "source" 593, vs "top" 594, vs "drawn" 595]),
  (280, tp []),
  (282, fl "code" [vs "_law_take" 590, vs "_law_take" 591, vs "/claim/cut.py" 592, .int 188 0, .int 2 0, .int 0 0, .int 0 0, .int 3 0, .ref 277, .bool true, .int 181 0, .ref 278, .none, .ref 279, .ref 280, .ref 281, .int 596 0, .int 188 0, vs "/claim/cut.py" 597]),
  (283, fo (pb 29) "_law_take" (.none) "law_on0023_01" 577 282),
  (284, tp []),
  (286, tp [vs "source" 602, vs "things" 603]),
  (287, tp []),
  (289, fl "code" [vs "_law_one" 599, vs "_law_one" 600, vs "/claim/cut.py" 601, .int 195 0, .int 2 0, .int 0 0, .int 0 0, .int 3 0, .ref 284, .bool true, .int 181 0, .ref 285, .none, .ref 286, .ref 287, .ref 288, .int 604 0, .int 195 0, vs "/claim/cut.py" 605]),
  (290, fo (pb 30) "_law_one" (.none) "law_on0023_01" 577 289),
  (291, tp []),
  (293, tp []),
  (294, tp []),
  (296, fl "code" [vs "_law_sorts" 607, vs "_law_sorts" 608, vs "/claim/cut.py" 609, .int 197 0, .int 0 0, .int 0 0, .int 0 0, .int 3 0, .ref 291, .bool true, .int 181 0, .ref 292, .none, .ref 293, .ref 294, .ref 295, .int 610 0, .int 197 0, vs "/claim/cut.py" 611]),
  (297, fo (pb 31) "_law_sorts" (.none) "law_on0023_01" 577 296),
  (298, tp [vs "named" 613, vs "m.N" 614]),
  (299, tp [vs "named" 616, vs "m.H" 617]),
  (300, tp []),
  (302, tp [vs "source" 622, vs "found" 623, vs "name" 624, vs "way" 625]),
  (303, tp []),
  (305, fl "code" [vs "_law_marks" 619, vs "_law_marks" 620, vs "/claim/cut.py" 621, .int 201 0, .int 1 0, .int 0 0, .int 0 0, .int 3 0, .ref 300, .bool true, .int 181 0, .ref 301, .none, .ref 302, .ref 303, .ref 304, .int 626 0, .int 201 0, vs "/claim/cut.py" 627]),
  (306, fo (pb 34) "_law_marks" (.none) "law_on0023_01" 577 305),
  (307, tp []),
  (310, fl "code" [vs "_law_built" 629, vs "_law_built" 630, vs "/claim/cut.py" 631, .int 207 0, .int 3 0, .int 0 0, .int 0 0, .int 3 0, .ref 307, .bool true, .int 181 0, .ref 308, .none, .none, .none, .ref 309, .int 632 0, .int 207 0, vs "/claim/cut.py" 633]),
  (311, fo (pb 35) "_law_built" (.none) "law_on0023_01" 577 310),
  (312, tp []),
  (314, tp [vs "marks" 638, vs "over" 639, vs "is_led" 640, vs "word" 641, vs "found" 642, vs "name" 643, vs "mark" 644, vs "is_free" 645]),
  (315, tp []),
  (317, fl "code" [vs "_law_seen" 635, vs "_law_seen" 636, vs "/claim/cut.py" 637, .int 221 0, .int 4 0, .int 0 0, .int 0 0, .int 3 0, .ref 312, .bool true, .int 181 0, .ref 313, .none, .ref 314, .ref 315, .ref 316, .int 646 0, .int 221 0, vs "/claim/cut.py" 647]),
  (318, fo (pb 36) "_law_seen" (.none) "law_on0023_01" 577 317),
  (319, tp []),
  (321, tp [vs "seen" 652, vs "rows" 653, vs "name" 654, vs "sort" 655]),
  (322, tp []),
  (324, fl "code" [vs "_law_due" 649, vs "_law_due" 650, vs "/claim/cut.py" 651, .int 235 0, .int 2 0, .int 0 0, .int 0 0, .int 3 0, .ref 319, .bool true, .int 181 0, .ref 320, .none, .ref 321, .ref 322, .ref 323, .int 656 0, .int 235 0, vs "/claim/cut.py" 657]),
  (325, fo (pb 37) "_law_due" (.none) "law_on0023_01" 577 324),
  (326, tp []),
  (329, fl "code" [vs "_law_asked" 659, vs "_law_asked" 660, vs "/claim/cut.py" 661, .int 244 0, .int 2 0, .int 0 0, .int 0 0, .int 3 0, .ref 326, .bool true, .int 181 0, .ref 327, .none, .none, .none, .ref 328, .int 662 0, .int 244 0, vs "/claim/cut.py" 663]),
  (330, fo (pb 38) "_law_asked" (.none) "law_on0023_01" 577 329),
  (331, tp []),
  (333, tp [vs "world" 668, vs "T" 669, vs "wanted" 670, vs "due" 671]),
  (334, tp []),
  (336, fl "code" [vs "_law_is_so" 665, vs "_law_is_so" 666, vs "/claim/cut.py" 667, .int 251 0, .int 4 0, .int 0 0, .int 0 0, .int 3 0, .ref 331, .bool true, .int 181 0, .ref 332, .none, .ref 333, .ref 334, .ref 335, .int 672 0, .int 251 0, vs "/claim/cut.py" 673]),
  (337, fo (pb 39) "_law_is_so" (.none) "law_on0023_01" 577 336),
  (338, tp []),
  (340, tp [vs "script" 678, vs "k" 679, vs "source" 680, vs "marks" 681, vs "is_led" 682, vs "world" 683, vs "over" 684, vs "types" 685, vs "turn" 686, vs "wanted" 687, vs "rows" 688, vs "word" 689, vs "due" 690, vs "held" 691, vs "none" 692, vs "T" 693]),
  (341, tp []),
  (343, fl "code" [vs "law" 675, vs "law" 676, vs "/claim/cut.py" 677, .int 253 0, .int 1 0, .int 0 0, .int 0 0, .int 3 0, .ref 338, .bool true, .int 181 0, .ref 339, .none, .ref 340, .ref 341, .ref 342, .int 694 0, .int 253 0, vs "/claim/cut.py" 695]),
  (344, fo (pb 40) "law" (.none) "law_on0023_01" 577 343)]
noncomputable def KA : List Addr := [2, 3, 15, 17, 18, 20, 21, 22, 29, 30, 32, 33, 35, 36, 37, 38, 39, 40, 43, 50, 51, 52, 55, 62, 63, 64, 74, 76, 77, 79, 80, 81, 82, 83, 84, 85, 88, 90, 91, 93, 94, 95, 97, 98, 100, 101, 102, 105, 106, 107, 109, 110, 112, 113, 121, 123, 124, 126, 127, 128, 130, 131, 133, 134, 135, 136, 137, 138, 139, 142, 144, 145, 147, 148, 149, 151, 152, 154, 155, 156, 158, 159, 161, 162, 163, 165, 166, 168, 169, 170, 173, 174, 175, 177, 178, 180, 181, 182, 184, 185, 187, 188, 189, 191, 192, 194, 195, 196, 198, 199, 201, 202, 203, 204, 205, 213, 215, 216, 218, 219, 220, 221, 222, 223, 224, 227, 229, 230, 232, 233, 241, 242, 244, 245, 247, 248, 249, 251, 252, 254, 255, 256, 258, 259, 261, 262, 263, 264, 265, 266, 267, 270, 272, 273, 275, 276, 277, 279, 280, 282, 283, 284, 286, 287, 289, 290, 291, 293, 294, 296, 297, 298, 299, 300, 302, 303, 305, 306, 307, 310, 311, 312, 314, 315, 317, 318, 319, 321, 322, 324, 325, 326, 329, 330, 331, 333, 334, 336, 337, 338, 340, 341, 343, 344]
theorem KA_eq : ∀ P, KA = (KF P).map (·.1) := fun P => by kernel_rfl
noncomputable def lawB : List Stmt := PySem.Challenge.pw_on0023_01.main.body.drop 40
noncomputable def qL : Program := { PySem.Challenge.pw_on0023_01 with main := { PySem.Challenge.pw_on0023_01.main with body := lawB } }
noncomputable def looseL : List Str := (["_wall", "ChanError", "NameFault", "TypeFault", "Reached", "without_pointer", "own_methods", "members_at", "embedded_in", "Levels", "start_type", "find_member", "names_of_methods", "member_or_none", "is_in_set", "method_set", "lack_of", "implements", "satisfied", "PLAIN", "NamedRow", "known_rows", "World", "_law_pool", "_law_take", "_law_one", "_law_sorts", "_law_number", "_law_holder", "_law_marks", "_law_built", "_law_seen", "_law_due", "_law_asked", "_law_is_so"] : List String).map Str.ofString
noncomputable def insAll : List Obj → Nat → BT → BT
  | [], _, t => t
  | o :: r, n, t => insAll r (n + 1) (t.ins n o)
noncomputable def fo0 (st : Option Stmt) (q : String) : Obj := match st with
  | some (.FunctionDef n args body _ _ _ scope _ _ _) => { cls := .none, data := .func { name := n, qualname := Str.ofString q, params := args, body := .stmts body, scope := scope, globals := 0, closure := [], defaults := .none, kwdefaults := .none } }
  | _ => { cls := .none }
noncomputable def ko (P : Params) (a : Nat) : Obj := ((KF P).lookup a).getD { cls := .none }
noncomputable def preL (P : Params) : List Obj := [{ cls := Value.type "dict", data := Data.dict #[de P "__name__" 1 (vs "builtins" 160), de P "__doc__" 2 (Value.builtin "builtins.__doc__:str#opaque"), de P "__package__" 3 (Value.builtin "builtins.__package__:str#opaque"), de P "__loader__" 4 (Value.builtin "builtins.__loader__:shared#opaque"), de P "__spec__" 5 (Value.builtin "builtins.__spec__#opaque"), de P "__build_class__" 6 (Value.builtin "__build_class__"), de P "__import__" 7 (Value.builtin "__import__"), de P "abs" 8 (Value.builtin "abs"), de P "all" 9 (Value.builtin "all"), de P "any" 10 (Value.builtin "any"), de P "ascii" 11 (Value.builtin "ascii"), de P "bin" 12 (Value.builtin "bin"), de P "breakpoint" 13 (Value.builtin "breakpoint"), de P "callable" 14 (Value.builtin "callable"), de P "chr" 15 (Value.builtin "chr"), de P "compile" 16 (Value.builtin "compile"), de P "delattr" 17 (Value.builtin "delattr"), de P "dir" 18 (Value.builtin "dir"), de P "divmod" 19 (Value.builtin "divmod"), de P "eval" 20 (Value.builtin "eval"), de P "exec" 21 (Value.builtin "exec"), de P "format" 22 (Value.builtin "format"), de P "getattr" 23 (Value.builtin "getattr"), de P "globals" 24 (Value.builtin "globals"), de P "hasattr" 25 (Value.builtin "hasattr"), de P "hash" 26 (Value.builtin "hash"), de P "hex" 27 (Value.builtin "hex"), de P "id" 28 (Value.builtin "id"), de P "input" 29 (Value.builtin "input"), de P "isinstance" 30 (Value.builtin "isinstance"), de P "issubclass" 31 (Value.builtin "issubclass"), de P "iter" 32 (Value.builtin "iter"), de P "aiter" 33 (Value.builtin "aiter"), de P "len" 34 (Value.builtin "len"), de P "locals" 35 (Value.builtin "locals"), de P "max" 36 (Value.builtin "max"), de P "min" 37 (Value.builtin "min"), de P "next" 38 (Value.builtin "next"), de P "anext" 39 (Value.builtin "anext"), de P "oct" 40 (Value.builtin "oct"), de P "ord" 41 (Value.builtin "ord"), de P "pow" 42 (Value.builtin "pow"), de P "print" 43 (Value.builtin "print"), de P "repr" 44 (Value.builtin "repr"), de P "round" 45 (Value.builtin "round"), de P "setattr" 46 (Value.builtin "setattr"), de P "sorted" 47 (Value.builtin "sorted"), de P "sum" 48 (Value.builtin "sum"), de P "vars" 49 (Value.builtin "vars"), de P "None" 50 (Value.none), de P "Ellipsis" 51 (Value.ellipsis), de P "NotImplemented" 52 (Value.notImplemented), de P "False" 53 (Value.bool false), de P "True" 54 (Value.bool true), de P "bool" 55 (Value.type "bool"), de P "memoryview" 56 (Value.type "memoryview"), de P "bytearray" 57 (Value.type "bytearray"), de P "bytes" 58 (Value.type "bytes"), de P "classmethod" 59 (Value.type "classmethod"), de P "complex" 60 (Value.type "complex"), de P "dict" 61 (Value.type "dict"), de P "enumerate" 62 (Value.type "enumerate"), de P "filter" 63 (Value.type "filter"), de P "float" 64 (Value.type "float"), de P "frozenset" 65 (Value.type "frozenset"), de P "property" 66 (Value.type "property"), de P "int" 67 (Value.type "int"), de P "list" 68 (Value.type "list"), de P "map" 69 (Value.type "map"), de P "object" 70 (Value.type "object"), de P "range" 71 (Value.type "range"), de P "reversed" 72 (Value.type "reversed"), de P "set" 73 (Value.type "set"), de P "slice" 74 (Value.type "slice"), de P "staticmethod" 75 (Value.type "staticmethod"), de P "str" 76 (Value.type "str"), de P "super" 77 (Value.type "super"), de P "tuple" 78 (Value.type "tuple"), de P "type" 79 (Value.type "type"), de P "zip" 80 (Value.type "zip"), de P "__debug__" 81 (Value.bool true), de P "BaseException" 82 (Value.type "BaseException"), de P "BaseExceptionGroup" 83 (Value.type "BaseExceptionGroup"), de P "Exception" 84 (Value.type "Exception"), de P "GeneratorExit" 85 (Value.type "GeneratorExit"), de P "KeyboardInterrupt" 86 (Value.type "KeyboardInterrupt"), de P "SystemExit" 87 (Value.type "SystemExit"), de P "ArithmeticError" 88 (Value.type "ArithmeticError"), de P "AssertionError" 89 (Value.type "AssertionError"), de P "AttributeError" 90 (Value.type "AttributeError"), de P "BufferError" 91 (Value.type "BufferError"), de P "EOFError" 92 (Value.type "EOFError"), de P "ImportError" 93 (Value.type "ImportError"), de P "LookupError" 94 (Value.type "LookupError"), de P "MemoryError" 95 (Value.type "MemoryError"), de P "NameError" 96 (Value.type "NameError"), de P "OSError" 97 (Value.type "OSError"), de P "ReferenceError" 98 (Value.type "ReferenceError"), de P "RuntimeError" 99 (Value.type "RuntimeError"), de P "StopAsyncIteration" 100 (Value.type "StopAsyncIteration"), de P "StopIteration" 101 (Value.type "StopIteration"), de P "SyntaxError" 102 (Value.type "SyntaxError"), de P "SystemError" 103 (Value.type "SystemError"), de P "TypeError" 104 (Value.type "TypeError"), de P "ValueError" 105 (Value.type "ValueError"), de P "Warning" 106 (Value.type "Warning"), de P "FloatingPointError" 107 (Value.type "FloatingPointError"), de P "OverflowError" 108 (Value.type "OverflowError"), de P "ZeroDivisionError" 109 (Value.type "ZeroDivisionError"), de P "BytesWarning" 110 (Value.type "BytesWarning"), de P "DeprecationWarning" 111 (Value.type "DeprecationWarning"), de P "EncodingWarning" 112 (Value.type "EncodingWarning"), de P "FutureWarning" 113 (Value.type "FutureWarning"), de P "ImportWarning" 114 (Value.type "ImportWarning"), de P "PendingDeprecationWarning" 115 (Value.type "PendingDeprecationWarning"), de P "ResourceWarning" 116 (Value.type "ResourceWarning"), de P "RuntimeWarning" 117 (Value.type "RuntimeWarning"), de P "SyntaxWarning" 118 (Value.type "SyntaxWarning"), de P "UnicodeWarning" 119 (Value.type "UnicodeWarning"), de P "UserWarning" 120 (Value.type "UserWarning"), de P "BlockingIOError" 121 (Value.type "BlockingIOError"), de P "ChildProcessError" 122 (Value.type "ChildProcessError"), de P "ConnectionError" 123 (Value.type "ConnectionError"), de P "FileExistsError" 124 (Value.type "FileExistsError"), de P "FileNotFoundError" 125 (Value.type "FileNotFoundError"), de P "InterruptedError" 126 (Value.type "InterruptedError"), de P "IsADirectoryError" 127 (Value.type "IsADirectoryError"), de P "NotADirectoryError" 128 (Value.type "NotADirectoryError"), de P "PermissionError" 129 (Value.type "PermissionError"), de P "ProcessLookupError" 130 (Value.type "ProcessLookupError"), de P "TimeoutError" 131 (Value.type "TimeoutError"), de P "IndentationError" 132 (Value.type "IndentationError"), de P "_IncompleteInputError" 133 (Value.type "_IncompleteInputError"), de P "IndexError" 134 (Value.type "IndexError"), de P "KeyError" 135 (Value.type "KeyError"), de P "ModuleNotFoundError" 136 (Value.type "ModuleNotFoundError"), de P "NotImplementedError" 137 (Value.type "NotImplementedError"), de P "PythonFinalizationError" 138 (Value.type "PythonFinalizationError"), de P "RecursionError" 139 (Value.type "RecursionError"), de P "UnboundLocalError" 140 (Value.type "UnboundLocalError"), de P "UnicodeError" 141 (Value.type "UnicodeError"), de P "BrokenPipeError" 142 (Value.type "BrokenPipeError"), de P "ConnectionAbortedError" 143 (Value.type "ConnectionAbortedError"), de P "ConnectionRefusedError" 144 (Value.type "ConnectionRefusedError"), de P "ConnectionResetError" 145 (Value.type "ConnectionResetError"), de P "TabError" 146 (Value.type "TabError"), de P "UnicodeDecodeError" 147 (Value.type "UnicodeDecodeError"), de P "UnicodeEncodeError" 148 (Value.type "UnicodeEncodeError"), de P "UnicodeTranslateError" 149 (Value.type "UnicodeTranslateError"), de P "ExceptionGroup" 150 (Value.type "ExceptionGroup"), de P "EnvironmentError" 151 (Value.type "OSError"), de P "IOError" 152 (Value.type "OSError"), de P "open" 153 (Value.builtin "open"), de P "quit" 154 (Value.builtin "builtins.quit#opaque"), de P "exit" 155 (Value.builtin "builtins.exit#opaque"), de P "copyright" 156 (Value.builtin "builtins.copyright#opaque"), de P "credits" 157 (Value.builtin "builtins.credits#opaque"), de P "license" 158 (Value.builtin "builtins.license#opaque"), de P "help" 159 (Value.builtin "builtins.help#opaque")] 159 },
  { cls := Value.type "dict", data := Data.dict #[de P "builtins" 162 (Value.ref 4), de P "__main__" 163 (Value.ref 5)] 2 },
  { cls := Value.none, data := Data.dict #[] },
  { cls := Value.type "dict", data := Data.dict #[de P "__name__" 165 (vs "__main__" 164), de P "__doc__" 166 (Value.none), de P "__package__" 167 (Value.none), de P "__loader__" 168 (Value.builtin "__main__.__loader__#opaque"), de P "__spec__" 169 (Value.none), de P "__annotations__" 170 (Value.ref 6), de P "__builtins__" 171 (Value.ref 4), de P "__file__" 173 (vs "/claim/cut.py" 172), de P "__cached__" 174 (Value.none)] 9 },
  { cls := Value.type "module", dict := some 0 },
  { cls := Value.type "module", dict := some 3 },
  { cls := Value.type "dict", data := Data.dict #[] },
  { cls := Value.type "tuple", data := Data.seq #[] },
  { cls := Value.none, data := Data.fields #[] },
  { cls := Value.type "code", data := Data.fields #[vs "<module>" 176, vs "<module>" 177, vs "/claim/cut.py" 178, Value.int 1 0, Value.int 0 0, Value.int 0 0, Value.int 0 0, Value.int 0 0, Value.ref 7, Value.bool false, Value.int 175 0, Value.ref 8, Value.none, Value.none, Value.none, Value.none, Value.int 179 0, Value.int 1 0, vs "/claim/cut.py" 180] },
  { cls := Value.type "frame", slots := #[some (Value.ref 9), some (Value.ref 3), some (Value.ref 3), none, some (vs "__main__" 164), none, some (Value.ref 0)] },
  { cls := Value.type "tuple", data := Data.seq #[] },
  { cls := Value.none, data := Data.fields #[] },
  { cls := Value.type "code", data := Data.fields #[vs "<module>" 182, vs "<module>" 183, vs "/claim/cut.py" 184, Value.int 1 0, Value.int 0 0, Value.int 0 0, Value.int 0 0, Value.int 0 0, Value.ref 11, Value.bool false, Value.int 181 0, Value.ref 12, Value.none, Value.none, Value.none, Value.none, Value.int 185 0, Value.int 1 0, vs "/claim/cut.py" 186] },
  { cls := Value.type "frame", slots := #[some (Value.ref 13), some (Value.ref 3), some (Value.ref 3), none, some (vs "__main__" 164), none, some (Value.ref 0)] }]
noncomputable def midL (P : Params) : List Obj := [{ cls := Value.type "dict", data := Data.dict #[de P "__name__" 1 (vs "builtins" 160), de P "__doc__" 2 (Value.builtin "builtins.__doc__:str#opaque"), de P "__package__" 3 (Value.builtin "builtins.__package__:str#opaque"), de P "__loader__" 4 (Value.builtin "builtins.__loader__:shared#opaque"), de P "__spec__" 5 (Value.builtin "builtins.__spec__#opaque"), de P "__build_class__" 6 (Value.builtin "__build_class__"), de P "__import__" 7 (Value.builtin "__import__"), de P "abs" 8 (Value.builtin "abs"), de P "all" 9 (Value.builtin "all"), de P "any" 10 (Value.builtin "any"), de P "ascii" 11 (Value.builtin "ascii"), de P "bin" 12 (Value.builtin "bin"), de P "breakpoint" 13 (Value.builtin "breakpoint"), de P "callable" 14 (Value.builtin "callable"), de P "chr" 15 (Value.builtin "chr"), de P "compile" 16 (Value.builtin "compile"), de P "delattr" 17 (Value.builtin "delattr"), de P "dir" 18 (Value.builtin "dir"), de P "divmod" 19 (Value.builtin "divmod"), de P "eval" 20 (Value.builtin "eval"), de P "exec" 21 (Value.builtin "exec"), de P "format" 22 (Value.builtin "format"), de P "getattr" 23 (Value.builtin "getattr"), de P "globals" 24 (Value.builtin "globals"), de P "hasattr" 25 (Value.builtin "hasattr"), de P "hash" 26 (Value.builtin "hash"), de P "hex" 27 (Value.builtin "hex"), de P "id" 28 (Value.builtin "id"), de P "input" 29 (Value.builtin "input"), de P "isinstance" 30 (Value.builtin "isinstance"), de P "issubclass" 31 (Value.builtin "issubclass"), de P "iter" 32 (Value.builtin "iter"), de P "aiter" 33 (Value.builtin "aiter"), de P "len" 34 (Value.builtin "len"), de P "locals" 35 (Value.builtin "locals"), de P "max" 36 (Value.builtin "max"), de P "min" 37 (Value.builtin "min"), de P "next" 38 (Value.builtin "next"), de P "anext" 39 (Value.builtin "anext"), de P "oct" 40 (Value.builtin "oct"), de P "ord" 41 (Value.builtin "ord"), de P "pow" 42 (Value.builtin "pow"), de P "print" 43 (Value.builtin "print"), de P "repr" 44 (Value.builtin "repr"), de P "round" 45 (Value.builtin "round"), de P "setattr" 46 (Value.builtin "setattr"), de P "sorted" 47 (Value.builtin "sorted"), de P "sum" 48 (Value.builtin "sum"), de P "vars" 49 (Value.builtin "vars"), de P "None" 50 (Value.none), de P "Ellipsis" 51 (Value.ellipsis), de P "NotImplemented" 52 (Value.notImplemented), de P "False" 53 (Value.bool false), de P "True" 54 (Value.bool true), de P "bool" 55 (Value.type "bool"), de P "memoryview" 56 (Value.type "memoryview"), de P "bytearray" 57 (Value.type "bytearray"), de P "bytes" 58 (Value.type "bytes"), de P "classmethod" 59 (Value.type "classmethod"), de P "complex" 60 (Value.type "complex"), de P "dict" 61 (Value.type "dict"), de P "enumerate" 62 (Value.type "enumerate"), de P "filter" 63 (Value.type "filter"), de P "float" 64 (Value.type "float"), de P "frozenset" 65 (Value.type "frozenset"), de P "property" 66 (Value.type "property"), de P "int" 67 (Value.type "int"), de P "list" 68 (Value.type "list"), de P "map" 69 (Value.type "map"), de P "object" 70 (Value.type "object"), de P "range" 71 (Value.type "range"), de P "reversed" 72 (Value.type "reversed"), de P "set" 73 (Value.type "set"), de P "slice" 74 (Value.type "slice"), de P "staticmethod" 75 (Value.type "staticmethod"), de P "str" 76 (Value.type "str"), de P "super" 77 (Value.type "super"), de P "tuple" 78 (Value.type "tuple"), de P "type" 79 (Value.type "type"), de P "zip" 80 (Value.type "zip"), de P "__debug__" 81 (Value.bool true), de P "BaseException" 82 (Value.type "BaseException"), de P "BaseExceptionGroup" 83 (Value.type "BaseExceptionGroup"), de P "Exception" 84 (Value.type "Exception"), de P "GeneratorExit" 85 (Value.type "GeneratorExit"), de P "KeyboardInterrupt" 86 (Value.type "KeyboardInterrupt"), de P "SystemExit" 87 (Value.type "SystemExit"), de P "ArithmeticError" 88 (Value.type "ArithmeticError"), de P "AssertionError" 89 (Value.type "AssertionError"), de P "AttributeError" 90 (Value.type "AttributeError"), de P "BufferError" 91 (Value.type "BufferError"), de P "EOFError" 92 (Value.type "EOFError"), de P "ImportError" 93 (Value.type "ImportError"), de P "LookupError" 94 (Value.type "LookupError"), de P "MemoryError" 95 (Value.type "MemoryError"), de P "NameError" 96 (Value.type "NameError"), de P "OSError" 97 (Value.type "OSError"), de P "ReferenceError" 98 (Value.type "ReferenceError"), de P "RuntimeError" 99 (Value.type "RuntimeError"), de P "StopAsyncIteration" 100 (Value.type "StopAsyncIteration"), de P "StopIteration" 101 (Value.type "StopIteration"), de P "SyntaxError" 102 (Value.type "SyntaxError"), de P "SystemError" 103 (Value.type "SystemError"), de P "TypeError" 104 (Value.type "TypeError"), de P "ValueError" 105 (Value.type "ValueError"), de P "Warning" 106 (Value.type "Warning"), de P "FloatingPointError" 107 (Value.type "FloatingPointError"), de P "OverflowError" 108 (Value.type "OverflowError"), de P "ZeroDivisionError" 109 (Value.type "ZeroDivisionError"), de P "BytesWarning" 110 (Value.type "BytesWarning"), de P "DeprecationWarning" 111 (Value.type "DeprecationWarning"), de P "EncodingWarning" 112 (Value.type "EncodingWarning"), de P "FutureWarning" 113 (Value.type "FutureWarning"), de P "ImportWarning" 114 (Value.type "ImportWarning"), de P "PendingDeprecationWarning" 115 (Value.type "PendingDeprecationWarning"), de P "ResourceWarning" 116 (Value.type "ResourceWarning"), de P "RuntimeWarning" 117 (Value.type "RuntimeWarning"), de P "SyntaxWarning" 118 (Value.type "SyntaxWarning"), de P "UnicodeWarning" 119 (Value.type "UnicodeWarning"), de P "UserWarning" 120 (Value.type "UserWarning"), de P "BlockingIOError" 121 (Value.type "BlockingIOError"), de P "ChildProcessError" 122 (Value.type "ChildProcessError"), de P "ConnectionError" 123 (Value.type "ConnectionError"), de P "FileExistsError" 124 (Value.type "FileExistsError"), de P "FileNotFoundError" 125 (Value.type "FileNotFoundError"), de P "InterruptedError" 126 (Value.type "InterruptedError"), de P "IsADirectoryError" 127 (Value.type "IsADirectoryError"), de P "NotADirectoryError" 128 (Value.type "NotADirectoryError"), de P "PermissionError" 129 (Value.type "PermissionError"), de P "ProcessLookupError" 130 (Value.type "ProcessLookupError"), de P "TimeoutError" 131 (Value.type "TimeoutError"), de P "IndentationError" 132 (Value.type "IndentationError"), de P "_IncompleteInputError" 133 (Value.type "_IncompleteInputError"), de P "IndexError" 134 (Value.type "IndexError"), de P "KeyError" 135 (Value.type "KeyError"), de P "ModuleNotFoundError" 136 (Value.type "ModuleNotFoundError"), de P "NotImplementedError" 137 (Value.type "NotImplementedError"), de P "PythonFinalizationError" 138 (Value.type "PythonFinalizationError"), de P "RecursionError" 139 (Value.type "RecursionError"), de P "UnboundLocalError" 140 (Value.type "UnboundLocalError"), de P "UnicodeError" 141 (Value.type "UnicodeError"), de P "BrokenPipeError" 142 (Value.type "BrokenPipeError"), de P "ConnectionAbortedError" 143 (Value.type "ConnectionAbortedError"), de P "ConnectionRefusedError" 144 (Value.type "ConnectionRefusedError"), de P "ConnectionResetError" 145 (Value.type "ConnectionResetError"), de P "TabError" 146 (Value.type "TabError"), de P "UnicodeDecodeError" 147 (Value.type "UnicodeDecodeError"), de P "UnicodeEncodeError" 148 (Value.type "UnicodeEncodeError"), de P "UnicodeTranslateError" 149 (Value.type "UnicodeTranslateError"), de P "ExceptionGroup" 150 (Value.type "ExceptionGroup"), de P "EnvironmentError" 151 (Value.type "OSError"), de P "IOError" 152 (Value.type "OSError"), de P "open" 153 (Value.builtin "open"), de P "quit" 154 (Value.builtin "builtins.quit#opaque"), de P "exit" 155 (Value.builtin "builtins.exit#opaque"), de P "copyright" 156 (Value.builtin "builtins.copyright#opaque"), de P "credits" 157 (Value.builtin "builtins.credits#opaque"), de P "license" 158 (Value.builtin "builtins.license#opaque"), de P "help" 159 (Value.builtin "builtins.help#opaque")] 159 },
  { cls := Value.type "dict", data := Data.dict #[de P "builtins" 162 (Value.ref 4), de P "__main__" 163 (Value.ref 5)] 2 },
  ko P 2,
  { cls := Value.type "dict", data := Data.dict #[de P "__name__" 165 (vs "chancore.lookup" 260), de P "__doc__" 166 (Value.none), de P "__package__" 167 (Value.none), de P "__loader__" 168 (Value.builtin "__main__.__loader__#opaque"), de P "__spec__" 169 (Value.none), de P "__annotations__" 170 (Value.ref 6), de P "__builtins__" 171 (Value.ref 4), de P "__file__" 173 (vs "/claim/cut.py" 172), de P "__cached__" 174 (Value.none), de P "_wall" 193 (Value.ref 21), de P "ChanError" 227 (Value.ref 39), de P "NameFault" 243 (Value.ref 52), de P "TypeFault" 259 (Value.ref 64), de P "Reached" 292 (Value.ref 83), de P "without_pointer" 299 (Value.ref 94), de P "own_methods" 307 (Value.ref 101), de P "members_at" 313 (Value.ref 106), de P "embedded_in" 326 (Value.ref 113), de P "Levels" 368 (Value.ref 137)] 19 },
  { cls := Value.type "module", dict := some 0 },
  { cls := Value.type "module", dict := some 3 },
  { cls := Value.type "dict", data := Data.dict #[] },
  { cls := Value.type "tuple", data := Data.seq #[] },
  { cls := Value.none, data := Data.fields #[] },
  { cls := Value.type "code", data := Data.fields #[vs "<module>" 176, vs "<module>" 177, vs "/claim/cut.py" 178, Value.int 1 0, Value.int 0 0, Value.int 0 0, Value.int 0 0, Value.int 0 0, Value.ref 7, Value.bool false, Value.int 175 0, Value.ref 8, Value.none, Value.none, Value.none, Value.none, Value.int 179 0, Value.int 1 0, vs "/claim/cut.py" 180] },
  { cls := Value.type "frame", slots := #[some (Value.ref 9), some (Value.ref 3), some (Value.ref 3), none, some (vs "__main__" 164), none, some (Value.ref 0)] },
  { cls := Value.type "tuple", data := Data.seq #[] },
  { cls := Value.none, data := Data.fields #[Value.int 1 0, Value.int 0 0, Value.ref 20, Value.int 5 0, Value.int 0 0, Value.ref 27, Value.int 11 0, Value.int 0 0, Value.ref 48, Value.int 13 0, Value.int 0 0, Value.ref 60, Value.int 16 0, Value.int 0 0, Value.ref 72, Value.int 21 0, Value.int 0 0, Value.ref 93, Value.int 23 0, Value.int 0 0, Value.ref 100, Value.int 25 0, Value.int 0 0, Value.ref 105, Value.int 39 0, Value.int 0 0, Value.ref 112, Value.int 47 0, Value.int 0 0, Value.ref 119] },
  { cls := Value.type "code", data := Data.fields #[vs "<module>" 182, vs "<module>" 183, vs "/claim/cut.py" 184, Value.int 1 0, Value.int 0 0, Value.int 0 0, Value.int 0 0, Value.int 0 0, Value.ref 11, Value.bool false, Value.int 181 0, Value.ref 12, Value.none, Value.none, Value.none, Value.none, Value.int 185 0, Value.int 1 0, vs "/claim/cut.py" 186] },
  { cls := Value.type "frame", slots := #[some (Value.ref 13), some (Value.ref 3), some (Value.ref 3), none, some (vs "__main__" 164), none, some (Value.ref 0)] },
  ko P 15,
  { cls := Value.none, data := Data.fields #[] },
  ko P 17,
  ko P 18,
  fo0 (pb 0) "_wall",
  ko P 20,
  ko P 21,
  ko P 22,
  { cls := Value.type "builtin_function_or_method", data := Data.fields #[Value.builtin "type.__prepare__", Value.type "type"] },
  { cls := Value.type "dict", data := Data.dict #[de P "__module__" 203 (vs "chancore.errors" 194), de P "__qualname__" 205 (vs "ChanError" 204), de P "__firstlineno__" 207 (Value.int 5 206), de P "__init__" 217 (Value.ref 36), de P "__static_attributes__" 220 (Value.ref 37)] 5 },
  { cls := Value.type "tuple", data := Data.seq #[] },
  { cls := Value.none, data := Data.fields #[Value.int 7 0, Value.int 4 0, Value.ref 35] },
  { cls := Value.type "code", data := Data.fields #[vs "ChanError" 198, vs "ChanError" 199, vs "/claim/cut.py" 200, Value.int 5 0, Value.int 0 0, Value.int 0 0, Value.int 0 0, Value.int 0 0, Value.ref 25, Value.bool false, Value.int 181 0, Value.ref 26, Value.none, Value.none, Value.none, Value.none, Value.int 201 0, Value.int 5 0, vs "/claim/cut.py" 202] },
  { cls := Value.type "frame", slots := #[some (Value.ref 27), some (Value.ref 3), some (Value.ref 24), none, some (vs "chancore.errors" 194), none, some (Value.ref 0)] },
  ko P 29,
  ko P 30,
  { cls := Value.none, data := Data.fields #[] },
  ko P 32,
  ko P 33,
  fo0 (cm 2 0) "ChanError.__init__",
  ko P 35,
  ko P 36,
  ko P 37,
  ko P 38,
  ko P 39,
  ko P 40,
  { cls := Value.type "super", data := Data.fields #[Value.ref 39, Value.ref 39, Value.ref 39] },
  { cls := Value.type "builtin_function_or_method", data := Data.fields #[Value.builtin "object.__init_subclass__", Value.ref 39] },
  ko P 43,
  { cls := Value.type "builtin_function_or_method", data := Data.fields #[Value.builtin "type.__prepare__", Value.type "type"] },
  { cls := Value.type "dict", data := Data.dict #[de P "__module__" 235 (vs "chancore.errors" 194), de P "__qualname__" 237 (vs "NameFault" 236), de P "__firstlineno__" 239 (Value.int 11 238), de P "__static_attributes__" 240 (Value.ref 50)] 4 },
  { cls := Value.type "tuple", data := Data.seq #[] },
  { cls := Value.none, data := Data.fields #[] },
  { cls := Value.type "code", data := Data.fields #[vs "NameFault" 230, vs "NameFault" 231, vs "/claim/cut.py" 232, Value.int 11 0, Value.int 0 0, Value.int 0 0, Value.int 0 0, Value.int 0 0, Value.ref 46, Value.bool false, Value.int 181 0, Value.ref 47, Value.none, Value.none, Value.none, Value.none, Value.int 233 0, Value.int 11 0, vs "/claim/cut.py" 234] },
  { cls := Value.type "frame", slots := #[some (Value.ref 48), some (Value.ref 3), some (Value.ref 45), none, some (vs "chancore.errors" 194), none, some (Value.ref 0)] },
  ko P 50,
  ko P 51,
  ko P 52,
  { cls := Value.type "super", data := Data.fields #[Value.ref 52, Value.ref 52, Value.ref 52] },
  { cls := Value.type "builtin_function_or_method", data := Data.fields #[Value.builtin "object.__init_subclass__", Value.ref 52] },
  ko P 55,
  { cls := Value.type "builtin_function_or_method", data := Data.fields #[Value.builtin "type.__prepare__", Value.type "type"] },
  { cls := Value.type "dict", data := Data.dict #[de P "__module__" 251 (vs "chancore.errors" 194), de P "__qualname__" 253 (vs "TypeFault" 252), de P "__firstlineno__" 255 (Value.int 13 254), de P "__static_attributes__" 256 (Value.ref 62)] 4 },
  { cls := Value.type "tuple", data := Data.seq #[] },
  { cls := Value.none, data := Data.fields #[] },
  { cls := Value.type "code", data := Data.fields #[vs "TypeFault" 246, vs "TypeFault" 247, vs "/claim/cut.py" 248, Value.int 13 0, Value.int 0 0, Value.int 0 0, Value.int 0 0, Value.int 0 0, Value.ref 58, Value.bool false, Value.int 181 0, Value.ref 59, Value.none, Value.none, Value.none, Value.none, Value.int 249 0, Value.int 13 0, vs "/claim/cut.py" 250] },
  { cls := Value.type "frame", slots := #[some (Value.ref 60), some (Value.ref 3), some (Value.ref 57), none, some (vs "chancore.errors" 194), none, some (Value.ref 0)] },
  ko P 62,
  ko P 63,
  ko P 64,
  { cls := Value.type "super", data := Data.fields #[Value.ref 64, Value.ref 64, Value.ref 64] },
  { cls := Value.type "builtin_function_or_method", data := Data.fields #[Value.builtin "object.__init_subclass__", Value.ref 64] },
  { cls := Value.type "tuple", data := Data.seq #[] },
  { cls := Value.type "builtin_function_or_method", data := Data.fields #[Value.builtin "type.__prepare__", Value.type "type"] },
  { cls := Value.type "dict", data := Data.dict #[de P "__module__" 269 (vs "chancore.lookup" 260), de P "__qualname__" 271 (vs "Reached" 270), de P "__firstlineno__" 273 (Value.int 16 272), de P "__init__" 282 (Value.ref 80), de P "__static_attributes__" 285 (Value.ref 81)] 5 },
  { cls := Value.type "tuple", data := Data.seq #[] },
  { cls := Value.none, data := Data.fields #[Value.int 18 0, Value.int 4 0, Value.ref 79] },
  { cls := Value.type "code", data := Data.fields #[vs "Reached" 264, vs "Reached" 265, vs "/claim/cut.py" 266, Value.int 16 0, Value.int 0 0, Value.int 0 0, Value.int 0 0, Value.int 0 0, Value.ref 70, Value.bool false, Value.int 181 0, Value.ref 71, Value.none, Value.none, Value.none, Value.none, Value.int 267 0, Value.int 16 0, vs "/claim/cut.py" 268] },
  { cls := Value.type "frame", slots := #[some (Value.ref 72), some (Value.ref 3), some (Value.ref 69), none, some (vs "chancore.lookup" 260), none, some (Value.ref 0)] },
  ko P 74,
  { cls := Value.none, data := Data.fields #[] },
  ko P 76,
  ko P 77,
  fo0 (cm 6 0) "Reached.__init__",
  ko P 79,
  ko P 80,
  ko P 81,
  ko P 82,
  ko P 83,
  ko P 84,
  ko P 85,
  { cls := Value.type "super", data := Data.fields #[Value.ref 83, Value.ref 83, Value.ref 83] },
  { cls := Value.type "builtin_function_or_method", data := Data.fields #[Value.builtin "object.__init_subclass__", Value.ref 83] },
  ko P 88,
  { cls := Value.none, data := Data.fields #[] },
  ko P 90,
  ko P 91,
  fo0 (pb 7) "without_pointer",
  ko P 93,
  ko P 94,
  ko P 95,
  { cls := Value.none, data := Data.fields #[] },
  ko P 97,
  ko P 98,
  fo0 (pb 8) "own_methods",
  ko P 100,
  ko P 101,
  ko P 102,
  { cls := Value.none, data := Data.fields #[] },
  fo0 (pb 9) "members_at",
  ko P 105,
  ko P 106,
  ko P 107,
  { cls := Value.none, data := Data.fields #[] },
  ko P 109,
  ko P 110,
  fo0 (pb 10) "embedded_in",
  ko P 112,
  ko P 113,
  { cls := Value.type "tuple", data := Data.seq #[] },
  { cls := Value.type "builtin_function_or_method", data := Data.fields #[Value.builtin "type.__prepare__", Value.type "type"] },
  { cls := Value.type "dict", data := Data.dict #[de P "__module__" 334 (vs "chancore.lookup" 260), de P "__qualname__" 336 (vs "Levels" 335), de P "__firstlineno__" 338 (Value.int 47 337), de P "__init__" 347 (Value.ref 127), de P "go_on" 357 (Value.ref 134), de P "__static_attributes__" 361 (Value.ref 135)] 6 },
  { cls := Value.type "tuple", data := Data.seq #[] },
  { cls := Value.none, data := Data.fields #[Value.int 49 0, Value.int 4 0, Value.ref 126, Value.int 54 0, Value.int 4 0, Value.ref 133] },
  { cls := Value.type "code", data := Data.fields #[vs "Levels" 329, vs "Levels" 330, vs "/claim/cut.py" 331, Value.int 47 0, Value.int 0 0, Value.int 0 0, Value.int 0 0, Value.int 0 0, Value.ref 117, Value.bool false, Value.int 181 0, Value.ref 118, Value.none, Value.none, Value.none, Value.none, Value.int 332 0, Value.int 47 0, vs "/claim/cut.py" 333] },
  { cls := Value.type "frame", slots := #[some (Value.ref 119), some (Value.ref 3), some (Value.ref 116), none, some (vs "chancore.lookup" 260), none, some (Value.ref 0)] },
  ko P 121,
  { cls := Value.none, data := Data.fields #[] },
  ko P 123,
  ko P 124,
  fo0 (cm 11 0) "Levels.__init__",
  ko P 126,
  ko P 127,
  ko P 128,
  { cls := Value.none, data := Data.fields #[] },
  ko P 130,
  ko P 131,
  fo0 (cm 11 1) "Levels.go_on",
  ko P 133,
  ko P 134,
  ko P 135,
  ko P 136,
  ko P 137,
  ko P 138,
  ko P 139,
  { cls := Value.type "super", data := Data.fields #[Value.ref 137, Value.ref 137, Value.ref 137] },
  { cls := Value.type "builtin_function_or_method", data := Data.fields #[Value.builtin "object.__init_subclass__", Value.ref 137] }]
noncomputable def stT (l : List Obj) (n k : Nat) (os : OsState) : SharedT := ⟨insAll l 0 .nil, n, {}, #[], {}, k, os⟩
noncomputable def envM : Env := { scope := PySem.Challenge.pw_on0023_01.main.scope, locals := mainNs, globals := mainNs, cells := [], code := .ref 13, frame := some 14 }
noncomputable def bM : List Stmt := behindTheImports PySem.Challenge.pw_on0023_01
noncomputable def cM : Code := .body bM envM
noncomputable def p0 : Pos := { line := 0, col := 0, endLine := 0, endCol := 0 }
noncomputable def pm0 : Pos := { line := 47, col := 0, endLine := 63, endCol := 25 }
noncomputable def pe0 : Pos := { line := 253, col := 0, endLine := 277, endCol := 104 }
noncomputable abbrev BM : List Frame := [topFrame p0]
noncomputable def annL (P : Params) : Option Value := (boot_heap P).nsMap mainGlobals "__annotations__"
theorem boot_sz : ∀ w : PySem.World, ((boot_heap w.params).isNs mainGlobals, (boot_heap w.params).objs.size) = (true, 11) := fun w => by kernel_rfl
theorem boot_is : ∀ w : PySem.World, (fencedOpening treeTable PySem.Challenge.pw_on0023_01 w 5300).map (fun s => (s.heap, s.gens, s.drawn, s.toks)) = some (boot_heap w.params, #[], boot_drawn, boot_toks) := boot_open rfl (by decide) fun _ => rfl
theorem run0 : ∀ (w : PySem.World) (os : OsState), topGo Fast.tw14364793385576792824 PySem.Challenge.pw_on0023_01 w 11 (annL w.params) 12 ⟨boot_heap w.params, #[], boot_drawn, boot_toks, os⟩ (topStub PySem.Challenge.pw_on0023_01) = some ((stT (preL w.params) 15 187 os).abs, ⟨denote Fast.tw14364793385576792824 cM, cM, p0, BM⟩) := fun w os => by kernel_rfl
theorem run1 : ∀ (w : PySem.World) (os : OsState), segRun Fast.tw14364793385576792824 PySem.Challenge.pw_on0023_01 w 11 (annL w.params) 1 1 (stT (preL w.params) 15 187 os).abs (blockOf bM envM cM p0 BM) = some (.next, (stT (preL w.params) 15 187 os).abs, cM, p0) := fun w os => by kernel_rfl
theorem run2 : ∀ (w : PySem.World) (os : OsState), segRunT Fast.tw14364793385576792824 PySem.Challenge.pw_on0023_01 w 11 (annL w.params) 1 1400 (stT (preL w.params) 15 187 os) (piecesOf (bM.take 12) envM cM p0 BM) = some (.next, stT (midL w.params) 142 369 os, cM, pm0) := fun w os => by kernel_rfl
noncomputable def G3 (w : PySem.World) (s' : SharedT) := (topRun Fast.tw14364793385576792824 PySem.Challenge.pw_on0023_01 w 11 (annL w.params) 2 s'.abs ⟨doneF .next, cM, pe0, BM⟩).map fun s => ((staticsOk (Fast.tw5923862056798008813 PySem.Challenge.pw_on0023_01.main.body) (boot_heap w.params) s.heap && namesBound PySem.Challenge.pw_on0023_01 s.heap && gensDone s && laidKept (boot_heap w.params) s.heap), Fast.tw4187177175401517315 qL looseL (Fast.tw5923862056798008813 PySem.Challenge.pw_on0023_01.main.body) (fun _ => true) true s, R.mapR s.heap.get? KA)
theorem run3 : ∀ (w : PySem.World) (os : OsState), (segRunT Fast.tw14364793385576792824 PySem.Challenge.pw_on0023_01 w 11 (annL w.params) 1 1400 (stT (midL w.params) 142 369 os) (piecesOf (bM.drop 12) envM cM pm0 BM)).map (fun r => ((r.1, r.2.2.1, r.2.2.2), G3 w r.2.1)) = some ((.next, cM, pe0), some (true, openGood qL looseL, R.mapR (fun p => some p.2) (KF w.params))) := fun w os => by kernel_rfl
theorem joinL {tb : String → Option Builtin} {p : Program} {w : PySem.World} {n₀ : Nat} {ann : Option Value} {b : List Stmt} {env : Env} {c : Code} {q pos pm pe : Pos} {S0 : Shared} {Sp Sm s' : SharedT} {s1 : Shared} {t0 : Thread}
    (r0 : topGo tb p w n₀ ann 12 S0 t0 = some (Sp.abs, ⟨denote tb (.body b env), c, pos, [topFrame q]⟩))
    (r1 : segRun tb p w n₀ ann 1 1 Sp.abs (blockOf b env c pos [topFrame q]) = some (.next, Sp.abs, c, pos))
    (r2 : segRunT tb p w n₀ ann 1 1400 Sp (piecesOf (b.take 12) env c pos [topFrame q]) = some (.next, Sm, c, pm))
    (r3 : segRunT tb p w n₀ ann 1 1400 Sm (piecesOf (b.drop 12) env c pm [topFrame q]) = some (.next, s', c, pe))
    (r4 : topRun tb p w n₀ ann 2 s'.abs ⟨doneF .next, c, pe, [topFrame q]⟩ = some s1) : topRun tb p w n₀ ann 5300 S0 t0 = some s1 := by
  have t1 := piece_app (rest := []) (q := q) (segRun_of r3) (piece_nil r4)
  rw [List.append_nil] at t1
  have t2 := piece_app (q := q) (segRun_of r2) t1
  rw [List.take_append_drop] at t2
  have t3 := go_top r0 (piece_block r1 t2)
  exact topRun_mono (5300 - (12 + (1 + (1400 + (1400 + 2))))) _ _ _ _ t3
theorem cutL {α : Type} {A : Option (Flow × SharedT × Code × Pos)} {G : SharedT → Option α} {f : Flow} {c : Code} {p : Pos} {v : α} (h : A.map (fun r => ((r.1, r.2.2.1, r.2.2.2), G r.2.1)) = some ((f, c, p), some v)) : ∃ s', A = some (f, s', c, p) ∧ G s' = some v := by
  rcases A with _ | ⟨f', s', c', p'⟩
  · cases h
  · have h := Option.some.inj h
    have h1 : f' = f ∧ c' = c ∧ p' = p := by simpa using congrArg (·.1) h
    obtain ⟨rfl, rfl, rfl⟩ := h1
    exact ⟨s', rfl, congrArg (·.2) h⟩
theorem leftL {β : Type} {p : Program} {w : PySem.World} {N m0 : Nat} {ann : Option Value} {h0 : Heap} {d0 : Drawn} {k0 : Nat} {os : OsState} {s1 : Shared} {F : Shared → β} {V : β}
    (e : fencedOpening treeTable p w N = some ⟨h0, #[], d0, k0, os⟩) (z1 : h0.isNs mainGlobals = true) (z2 : h0.objs.size = m0) (z3 : h0.nsMap mainGlobals "__annotations__" = ann) (t : topRun treeTable p w m0 ann N ⟨h0, #[], d0, k0, os⟩ (topStub p) = some s1)
    (l1 : (staticsOk (importedModules p.main.body) h0 s1.heap && namesBound p s1.heap && gensDone s1 && laidKept h0 s1.heap) = true) (l2 : F s1 = V) : (openEnds treeTable p w N).map F = some V := by
  subst z2 z3
  have tf : topFrom treeTable p w N ⟨h0, #[], d0, k0, os⟩ = some s1 := by
    unfold topFrom
    dsimp only
    rw [z1]
    show (topRun treeTable p w h0.objs.size (h0.nsMap mainGlobals "__annotations__") N ⟨h0, #[], d0, k0, os⟩ (topStub p)).bind _ = _
    rw [t]
    show (match staticsOk (importedModules p.main.body) h0 s1.heap && namesBound p s1.heap && gensDone s1 && laidKept h0 s1.heap with | true => some s1 | false => none) = _
    rw [l1]
  unfold openEnds
  rw [e]
  show (topFrom treeTable p w N _).map F = _
  rw [tf]
  exact congrArg some l2
theorem whole : LeftO PySem.Challenge.pw_on0023_01 qL looseL (fun _ => true) (kHook KF KA KA_eq).obs (kHook KF KA KA_eq).val 5300 := fun w => by
  obtain ⟨⟨h, gs, d, k, os⟩, e, e'⟩ := Option.map_eq_some_iff.mp (boot_is w)
  obtain ⟨rfl, rfl, rfl, rfl⟩ : h = boot_heap w.params ∧ gs = #[] ∧ d = boot_drawn ∧ k = boot_toks := by simpa using e'
  obtain ⟨s', hr, v2⟩ := cutL (run3 w os)
  delta G3 at v2
  obtain ⟨s1, hs, v3⟩ := Option.map_eq_some_iff.mp v2
  have t := joinL (run0 w os) (run1 w os) (run2 w os) hr hs
  rw [← Fast.te14364793385576792824] at t
  rw [← Fast.te4187177175401517315, ← Fast.te5923862056798008813, ← R.mapR_eq] at v3
  exact leftL e (congrArg (·.1) (boot_sz w)) (congrArg (·.2) (boot_sz w)) rfl t (congrArg (·.1) v3) (congrArg (·.2) v3)
end
section
noncomputable abbrev Nm := List Nat
noncomputable def toS (l : Nm) : PySem.Str := ⟨l.toArray⟩
theorem toS_inj {a b : Nm} (h : toS a = toS b) : a = b := by
  have := congrArg (fun s => s.cps.toList) h
  simpa [toS] using this
inductive AV where
  | none
  | bool (b : Bool)
  | int (i : Int)
  | str (l : Nm)
  | tup (xs : List AV)
  | ref (i : Nat)
  | g (i : Nat)
  | fdict (ks : List Nm) (xs : List AV)
  | finst (c : Nat) (ks : List Nm) (xs : List AV)
  | fsub (ks : List Nm) (xs : List AV)
  | top
inductive AObj where
  | list (xs : List AV)
  | dict (ks : List Nm) (xs : List AV) (ep : Option Nat)
  | inst (c : Nat) (d : Nat)
  | src (c : List (Nat × Nat))
  | fix (xs : List AV)
noncomputable abbrev Led := List (Addr × Obj)
noncomputable def keys (l : Led) : List Addr := l.map (·.1)
noncomputable abbrev tupO (vs : List Value) (n : Nat) : Obj := { cls := .type "tuple", data := .seq vs.toArray n }
noncomputable abbrev listO (vs : List Value) (n : Nat) : Obj := { cls := .type "list", data := .seq vs.toArray n }
noncomputable def draw (t : Nat) (i j : Int) : Int × Int × Int := match decide (0 < i) with
  | true => (Int.fmod i t, Int.fdiv i t, j)
  | false => (Int.fmod (Int.fdiv (Int.fmod (Int.fmod (j * 39373 + 7) 2147483647 * Int.fmod (j * 39373 + 7) 2147483647) 2147483629) 32) t, i, Int.fmod (j * 39373 + 7) 2147483647)
noncomputable def Cons : List (Nat × Nat) → Int → Int → Prop
  | [], _, j => 0 ≤ j ∧ j < 2147483648
  | (t, r) :: c, i, j => (0 ≤ j ∧ j < 2147483648) ∧ (draw t i j).1 = (r : Int) ∧ Cons c (draw t i j).2.1 (draw t i j).2.2
structure Cfg where
  prog : Program
  w : World
  H : Heap
  K : Frag
  p : Program
  loose : List PySem.Str
  mean : ExcName → Option Value
  mg : PySem.Str → Option Value
  mb : PySem.Str → Option Value
  S : Frag
  gval : Nat → Value
  cls : Nat → Addr
  scr : Addr × Obj
noncomputable def LO (C : Cfg) (a : Addr) (ob : Obj) (vs : List Value) : Prop := (∃ n, ob = listO vs n) ∧ C.H.objs.size ≤ a
noncomputable def Ents (w : World) : List DictEntry → List Nm → List Value → Prop
  | [], ks, vs => ks = [] ∧ vs = []
  | e :: es, ks, vs => ∃ k ks' v vs', ks = k :: ks' ∧ vs = v :: vs' ∧ e.hash = PyData.keyHash w.params (toS k) ∧ (∃ t, e.key = .str (toS k) t) ∧ e.val = v ∧ Ents w es ks' vs'
noncomputable def dgetV : List Nm → List Value → Nm → Option Value
  | k :: ks, x :: xs, n => match decide (k = n) with
    | true => some x
    | false => dgetV ks xs n
  | _, _, _ => none
noncomputable def Pick (ks' : List Nm) (vs' : List Value) (ks : List Nm) (us : List Value) : Prop := us.length = ks.length ∧ ∀ k u, dgetV ks us k = some u → dgetV ks' vs' k = some u
noncomputable def Stb (C : Cfg) (X γ : List Addr) (led : Led) (a : Addr) (o : Obj) : Prop := C.S.lookup a = some o ∨ ((a, o) ∈ led ∧ a ∉ γ ∧ a ∉ X)
mutual
noncomputable def VR (C : Cfg) (X γ : List Addr) (led : Led) : AV → Value → Prop
  | .none, v => v = .none
  | .bool b, v => v = .bool b
  | .int i, v => ∃ t, v = .int i t
  | .str l, v => ∃ t, v = .str (toS l) t
  | .tup xs, v => ∃ a vs n, v = .ref a ∧ Stb C X γ led a (tupO vs n) ∧ VRs C X γ led xs vs
  | .ref i, v => ∃ a, γ[i]? = some a ∧ v = .ref a
  | .g i, v => v = C.gval i
  | .fdict ks xs, v => ∃ a es n vs, v = .ref a ∧ Stb C X γ led a (dictOf es n) ∧ Ents C.w es ks vs ∧ ks.Nodup ∧ VRs C X γ led xs vs
  | .finst c ks xs, v => ∃ a d es n vs, v = .ref a ∧ Stb C X γ led a (instObj (C.cls c) d) ∧ Stb C X γ led d (dictOf es n) ∧ Ents C.w es ks vs ∧ ks.Nodup ∧ VRs C X γ led xs vs
  | .fsub ks xs, v => ∃ a es n ks' vs' us, v = .ref a ∧ Stb C X γ led a (dictOf es n) ∧ Ents C.w es ks' vs' ∧ ks'.Nodup ∧ Pick ks' vs' ks us ∧ VRs C X γ led xs us
  | .top, _ => True
noncomputable def VRs (C : Cfg) (X γ : List Addr) (led : Led) : List AV → List Value → Prop
  | [], vs => vs = []
  | x :: xs, vs => ∃ v vs', vs = v :: vs' ∧ VR C X γ led x v ∧ VRs C X γ led xs vs'
end
section
variable {C : Cfg} {X γ : List Addr} {led : Led} {v : Value}
theorem vr_none (h : VR C X γ led .none v) : v = .none := h
theorem vr_bool {b : Bool} (h : VR C X γ led (.bool b) v) : v = .bool b := h
theorem vr_int {i : Int} (h : VR C X γ led (.int i) v) : ∃ t, v = .int i t := h
theorem vr_str {l : Nm} (h : VR C X γ led (.str l) v) : ∃ t, v = .str (toS l) t := h
theorem vr_tup {xs : List AV} (h : VR C X γ led (.tup xs) v) : ∃ a vs n, v = .ref a ∧ Stb C X γ led a (tupO vs n) ∧ VRs C X γ led xs vs := h
theorem vr_ref {i : Nat} (h : VR C X γ led (.ref i) v) : ∃ a, γ[i]? = some a ∧ v = .ref a := h
theorem vr_g {i : Nat} (h : VR C X γ led (.g i) v) : v = C.gval i := h
theorem vr_fdict {ks : List Nm} {xs : List AV} (h : VR C X γ led (.fdict ks xs) v) : ∃ a es n vs, v = .ref a ∧ Stb C X γ led a (dictOf es n) ∧ Ents C.w es ks vs ∧ ks.Nodup ∧ VRs C X γ led xs vs := h
theorem vr_finst {c : Nat} {ks : List Nm} {xs : List AV} (h : VR C X γ led (.finst c ks xs) v) : ∃ a d es n vs, v = .ref a ∧ Stb C X γ led a (instObj (C.cls c) d) ∧ Stb C X γ led d (dictOf es n) ∧ Ents C.w es ks vs ∧ ks.Nodup ∧ VRs C X γ led xs vs := h
theorem vr_fsub {ks : List Nm} {xs : List AV} (h : VR C X γ led (.fsub ks xs) v) : ∃ a es n ks' vs' us, v = .ref a ∧ Stb C X γ led a (dictOf es n) ∧ Ents C.w es ks' vs' ∧ ks'.Nodup ∧ Pick ks' vs' ks us ∧ VRs C X γ led xs us := h
end
noncomputable def seqD (o : Obj) : Prop := ∃ xs n, o.data = .seq xs n
structure Hold (C : Cfg) (h : Heap) (led : Led) : Prop where
  at_ : ∀ p ∈ led, h.get? p.1 = some p.2
  nodup : (keys led).Nodup
  above : ∀ p ∈ led, C.H.objs.size ≤ p.1 ∨ (C.H.get? p.1 = none ∧ seqD p.2 ∧ p = C.scr)
  keep : ∀ b o, C.H.get? b = some o → h.get? b = some o
noncomputable def ObjIs (C : Cfg) (X γ : List Addr) (led : Led) (a : Addr) : AObj → Prop
  | .list xs => ∃ vs ob, (a, ob) ∈ led ∧ LO C a ob vs ∧ VRs C X γ led xs vs
  | .dict ks xs ep => ∃ es n vs, (a, dictOf es n) ∈ led ∧ (∀ m, ep = some m → n = m) ∧ Ents C.w es ks vs ∧ ks.Nodup ∧ VRs C X γ led xs vs
  | .inst c d => ∃ dx, γ[d]? = some dx ∧ (a, instObj (C.cls c) dx) ∈ led
  | .src c => ∃ i j t u n, (a, listO [.int i t, .int j u] n) ∈ led ∧ Cons c i j ∧ C.H.objs.size ≤ a
  | .fix xs => ∃ vs ob, (a, ob) ∈ led ∧ ((ob.cls = .type "list" ∧ ∃ n, ob.data = .seq vs.toArray n) ∧ (a, ob) = C.scr) ∧ VRs C X γ led xs vs
structure Rel (C : Cfg) (X γ : List Addr) (led : Led) (objs : List AObj) : Prop where
  len : γ.length = objs.length
  nodup : γ.Nodup
  apart : ∀ a ∈ γ, a ∉ X
  inled : ∀ a ∈ X, a ∈ keys led
  has : ∀ (i : Nat) (o : AObj) (a : Addr), objs[i]? = some o → γ[i]? = some a → ObjIs C X γ led a o
structure Ext (own γ : List Addr) (led : Led) (γ' : List Addr) (led' : Led) : Prop where
  pre : ∃ new, γ' = γ ++ new ∧ ∀ a ∈ new, a ∉ keys led
  stay : ∀ p ∈ led, p.1 ∉ γ → p.1 ∉ own → p ∈ led'
  keys : ∀ a ∈ keys led, a ∈ keys led'
theorem mem_keys {l : Led} {p : Addr × Obj} (h : p ∈ l) : p.1 ∈ keys l := List.mem_map_of_mem h
theorem Hold.up {C : Cfg} {h : Heap} {led : Led} (D : Hold C h led) {a : Addr} {o : Obj} (hm : (a, o) ∈ led) (hn : ¬ seqD o) : C.H.objs.size ≤ a :=
  (D.above _ hm).elim id fun q => absurd q.2.1 hn
theorem Hold.off {C : Cfg} {h : Heap} {led : Led} (D : Hold C h led) {a : Addr} (hm : a ∈ keys led) : C.H.get? a = none := by
  obtain ⟨p, hp, rfl⟩ := List.mem_map.mp hm
  rcases D.above p hp with q | q
  · cases e : C.H.get? p.1 with
    | none => rfl
    | some o => exact absurd (Nat.lt_of_lt_of_le (Heap.lt_size e) q) (Nat.lt_irrefl _)
  · exact q.1
theorem Hold.uniq {C : Cfg} {h : Heap} {led : Led} (D : Hold C h led) {a : Addr} {o o' : Obj} (h1 : (a, o) ∈ led) (h2 : (a, o') ∈ led) : o = o' := by
  have e1 := D.at_ _ h1
  have e2 := D.at_ _ h2
  rw [e1] at e2
  exact Option.some.inj e2
theorem Ext.refl {own γ : List Addr} {led : Led} : Ext own γ led γ led := ⟨⟨[], by simp, by simp⟩, fun p h _ _ => h, fun _ h => h⟩
theorem Ext.trans {own γ γ1 γ2 : List Addr} {led led1 led2 : Led} (a : Ext own γ led γ1 led1) (b : Ext own γ1 led1 γ2 led2) : Ext own γ led γ2 led2 := by
  obtain ⟨n1, rfl, h1⟩ := a.pre
  obtain ⟨n2, rfl, h2⟩ := b.pre
  refine ⟨⟨n1 ++ n2, by simp, fun x hx => ?_⟩, fun p hp hg ho => b.stay p (a.stay p hp hg ho) ?_ ho, fun x hx => b.keys x (a.keys x hx)⟩
  · rcases List.mem_append.mp hx with hx | hx
    · exact h1 x hx
    · exact fun q => h2 x hx (a.keys x q)
  · intro q
    rcases List.mem_append.mp q with q | q
    · exact hg q
    · exact h1 _ q (mem_keys hp)
theorem Ext.own {own own' γ γ' : List Addr} {led led' : Led} (a : Ext own γ led γ' led') (h : ∀ x ∈ own, x ∈ own') : Ext own' γ led γ' led' :=
  ⟨a.pre, fun p hp hg ho => a.stay p hp hg fun q => ho (h _ q), a.keys⟩
theorem Ext.nil {own γ γ' : List Addr} {led led' : Led} (a : Ext [] γ led γ' led') : Ext own γ led γ' led' := a.own (by simp)
section
variable {C : Cfg} {X γ γ' own : List Addr} {led led' : Led}
theorem Stb.ext {a : Addr} {o : Obj} (h : Stb C X γ led a o) (e : Ext own γ led γ' led') (ho : ∀ x ∈ own, x ∈ X) : Stb C X γ' led' a o := by
  rcases h with h | ⟨h1, h2, h3⟩
  · exact .inl h
  · refine .inr ⟨e.stay _ h1 h2 fun q => h3 (ho _ q), ?_, h3⟩
    obtain ⟨n, rfl, hn⟩ := e.pre
    intro q
    rcases List.mem_append.mp q with q | q
    · exact h2 q
    · exact hn _ q (mem_keys h1)
theorem pre_get {i : Nat} {a : Addr} (e : Ext own γ led γ' led') (h : γ[i]? = some a) : γ'[i]? = some a := by
  obtain ⟨n, rfl, _⟩ := e.pre
  rw [List.getElem?_append_left]
  · exact h
  · exact (List.getElem?_eq_some_iff.mp h).1
mutual
theorem VR.ext (e : Ext own γ led γ' led') (ho : ∀ x ∈ own, x ∈ X) : ∀ (x : AV) (v : Value), VR C X γ led x v → VR C X γ' led' x v
  | .none, v, h => h
  | .bool b, v, h => h
  | .int i, v, h => h
  | .str l, v, h => h
  | .tup xs, v, h => by
    simp only [VR] at h ⊢
    obtain ⟨a, vs, n, h1, h2, h3⟩ := h
    exact ⟨a, vs, n, h1, h2.ext e ho, VRs.ext e ho xs vs h3⟩
  | .ref i, v, h => by
    simp only [VR] at h ⊢
    obtain ⟨a, h1, h2⟩ := h
    exact ⟨a, pre_get e h1, h2⟩
  | .g i, v, h => h
  | .fdict ks xs, v, h => by
    simp only [VR] at h ⊢
    obtain ⟨a, es, n, vs, h1, h2, h3, h4, h5⟩ := h
    exact ⟨a, es, n, vs, h1, h2.ext e ho, h3, h4, VRs.ext e ho xs vs h5⟩
  | .finst c ks xs, v, h => by
    simp only [VR] at h ⊢
    obtain ⟨a, d, es, n, vs, h1, h2, h2', h3, h4, h5⟩ := h
    exact ⟨a, d, es, n, vs, h1, h2.ext e ho, h2'.ext e ho, h3, h4, VRs.ext e ho xs vs h5⟩
  | .fsub ks xs, v, h => by
    simp only [VR] at h ⊢
    obtain ⟨a, es, n, ks', vs', us, h1, h2, h3, h4, h5, h6⟩ := h
    exact ⟨a, es, n, ks', vs', us, h1, h2.ext e ho, h3, h4, h5, VRs.ext e ho xs us h6⟩
  | .top, v, h => trivial
theorem VRs.ext (e : Ext own γ led γ' led') (ho : ∀ x ∈ own, x ∈ X) : ∀ (xs : List AV) (vs : List Value), VRs C X γ led xs vs → VRs C X γ' led' xs vs
  | [], vs, h => h
  | x :: xs, vs, h => by
    simp only [VRs] at h ⊢
    obtain ⟨v, vs', h1, h2, h3⟩ := h
    exact ⟨v, vs', h1, VR.ext e ho x v h2, VRs.ext e ho xs vs' h3⟩
end
theorem VRs.length : ∀ {xs : List AV} {vs : List Value}, VRs C X γ led xs vs → vs.length = xs.length
  | [], vs, h => by simp only [VRs] at h; rw [h]; rfl
  | x :: xs, vs, h => by
    simp only [VRs] at h
    obtain ⟨v, vs', rfl, _, h3⟩ := h
    rw [List.length_cons, List.length_cons, VRs.length h3]
theorem VRs.get : ∀ {xs : List AV} {vs : List Value} {i : Nat} {x : AV}, VRs C X γ led xs vs → xs[i]? = some x → ∃ v, vs[i]? = some v ∧ VR C X γ led x v
  | [], _, _, _, _, e => by simp at e
  | x :: xs, vs, i, y, h, e => by
    simp only [VRs] at h
    obtain ⟨v, vs', rfl, h2, h3⟩ := h
    cases i with
    | zero => simp at e; subst e; exact ⟨v, rfl, h2⟩
    | succ i => simp at e; simpa using VRs.get h3 e
theorem VRs.append : ∀ {xs ys : List AV} {vs us : List Value}, VRs C X γ led xs vs → VRs C X γ led ys us → VRs C X γ led (xs ++ ys) (vs ++ us)
  | [], ys, vs, us, h, k => by simp only [VRs] at h; subst h; exact k
  | x :: xs, ys, vs, us, h, k => by
    simp only [VRs] at h
    obtain ⟨v, vs', rfl, h2, h3⟩ := h
    simp only [List.cons_append, VRs]
    exact ⟨v, vs' ++ us, rfl, h2, VRs.append h3 k⟩
theorem VRs.one {x : AV} {v : Value} (h : VR C X γ led x v) : VRs C X γ led [x] [v] := by
  simp only [VRs]
  exact ⟨v, [], rfl, h, rfl⟩
end
section
variable {C : Cfg} {X γ γ' own : List Addr} {led led' : Led} {objs : List AObj}
theorem ObjIs.ext {a : Addr} {o : AObj} (h : ObjIs C X γ led a o) (e : Ext own γ led γ' led') (ho : ∀ x ∈ own, x ∈ X) (hs : ∀ ob, (a, ob) ∈ led → (a, ob) ∈ led') : ObjIs C X γ' led' a o := by
  cases o with
  | list xs =>
    obtain ⟨vs, ob, h1, h1', h2⟩ := h
    exact ⟨vs, ob, hs _ h1, h1', VRs.ext e ho _ _ h2⟩
  | dict ks xs ep =>
    obtain ⟨es, n, vs, h1, h1', h2, h3, h4⟩ := h
    exact ⟨es, n, vs, hs _ h1, h1', h2, h3, VRs.ext e ho _ _ h4⟩
  | inst c d =>
    obtain ⟨dx, h1, h2⟩ := h
    exact ⟨dx, pre_get e h1, hs _ h2⟩
  | src c =>
    obtain ⟨i, j, t, u, n, h1, h2⟩ := h
    exact ⟨i, j, t, u, n, hs _ h1, h2⟩
  | fix xs =>
    obtain ⟨vs, ob, h1, h1', h2⟩ := h
    exact ⟨vs, ob, hs _ h1, h1', VRs.ext e ho _ _ h2⟩
theorem Rel.ext (R : Rel C X γ led objs) (ho : ∀ x ∈ own, x ∈ X) (hsub : ∀ p ∈ led, p.1 ∉ own → p ∈ led') (hk : ∀ a ∈ keys led, a ∈ keys led') : Rel C X γ led' objs where
  len := R.len
  nodup := R.nodup
  apart := R.apart
  inled := fun a ha => hk a (R.inled a ha)
  has := fun i o a h1 h2 => by
    have e : Ext own γ led γ led' := ⟨⟨[], by simp, by simp⟩, fun p hp _ hq => hsub p hp hq, hk⟩
    exact (R.has i o a h1 h2).ext e ho fun ob hm => hsub _ hm fun q => R.apart a (List.mem_of_getElem? h2) (ho _ q)
theorem Rel.mem {i : Nat} {a : Addr} (R : Rel C X γ led objs) (h : γ[i]? = some a) : a ∈ keys led := by
  have hl := (List.getElem?_eq_some_iff.mp h).1
  rw [R.len] at hl
  obtain ⟨o, ho⟩ : ∃ o, objs[i]? = some o := ⟨objs[i], List.getElem?_eq_getElem hl⟩
  have k := R.has i o a ho h
  cases o with
  | list xs => obtain ⟨vs, n, h1, h2⟩ := k; exact mem_keys h1
  | dict ks xs ep => obtain ⟨es, n, vs, h1, _⟩ := k; exact mem_keys h1
  | inst c d => obtain ⟨dx, _, h2⟩ := k; exact mem_keys h2
  | src c => obtain ⟨i, j, t, u, n, h1, h2⟩ := k; exact mem_keys h1
  | fix xs => obtain ⟨vs, n, h1, h2⟩ := k; exact mem_keys h1
theorem Rel.gmem (R : Rel C X γ led objs) {a : Addr} (h : a ∈ γ) : a ∈ keys led := by
  obtain ⟨i, hi, rfl⟩ := List.getElem_of_mem h
  exact R.mem (List.getElem?_eq_getElem hi)
theorem Rel.addr (R : Rel C X γ led objs) {i : Nat} {o : AObj} (h : objs[i]? = some o) : ∃ a, γ[i]? = some a ∧ ObjIs C X γ led a o := by
  have hl := (List.getElem?_eq_some_iff.mp h).1
  rw [← R.len] at hl
  exact ⟨γ[i], List.getElem?_eq_getElem hl, R.has i o _ h (List.getElem?_eq_getElem hl)⟩
end
noncomputable def upd (led : Led) (d : Addr) (o : Obj) : Led := led.map fun p => if p.1 = d then (d, o) else p
theorem keys_upd (led : Led) (d : Addr) (o : Obj) : keys (upd led d o) = keys led := by
  unfold keys upd
  rw [List.map_map]
  refine List.map_congr_left fun p _ => ?_
  by_cases h : p.1 = d <;> simp [h]
theorem mem_upd_ne {led : Led} {d : Addr} {o : Obj} {p : Addr × Obj} (h : p ∈ led) (hd : p.1 ≠ d) : p ∈ upd led d o :=
  List.mem_map.mpr ⟨p, h, by simp [hd]⟩
theorem mem_upd_self {led : Led} {d : Addr} {o : Obj} (h : d ∈ keys led) : (d, o) ∈ upd led d o := by
  obtain ⟨p, hp, e⟩ := List.mem_map.mp h
  exact List.mem_map.mpr ⟨p, hp, by simp [e]⟩
theorem of_mem_upd {led : Led} {d : Addr} {o : Obj} {p : Addr × Obj} (h : p ∈ upd led d o) : (p = (d, o) ∧ d ∈ keys led) ∨ (p ∈ led ∧ p.1 ≠ d) := by
  obtain ⟨q, hq, rfl⟩ := List.mem_map.mp h
  by_cases hd : q.1 = d
  · left; simp [hd]; exact hd ▸ mem_keys hq
  · right; simp [hd, hq]
section
variable {C : Cfg} {h h' : Heap} {led : Led}
theorem Hold.grow (D : Hold C h led) (hk : ∀ b o, h.get? b = some o → h'.get? b = some o) : Hold C h' led :=
  ⟨fun p hp => hk _ _ (D.at_ p hp), D.nodup, D.above, fun b o e => hk _ _ (D.keep b o e)⟩
theorem Hold.lt (D : Hold C h led) {a : Addr} (ha : a ∈ keys led) : a < h.objs.size := by
  obtain ⟨p, hp, rfl⟩ := List.mem_map.mp ha
  exact Heap.lt_size (D.at_ p hp)
theorem Hold.add (D : Hold C h led) {a : Addr} {o : Obj} (hk : ∀ b o, h.get? b = some o → h'.get? b = some o) (hn : h.objs.size ≤ a) (ha : h'.get? a = some o) (hH : C.H.objs.size ≤ h.objs.size) : Hold C h' ((a, o) :: led) := by
  refine ⟨fun p hp => ?_, ?_, fun p hp => ?_, fun b o e => hk _ _ (D.keep b o e)⟩
  · rcases List.mem_cons.mp hp with rfl | hp
    · exact ha
    · exact hk _ _ (D.at_ p hp)
  · show (a :: keys led).Nodup
    refine List.nodup_cons.mpr ⟨fun q => ?_, D.nodup⟩
    exact Nat.lt_irrefl _ (Nat.lt_of_lt_of_le (D.lt q) hn)
  · rcases List.mem_cons.mp hp with rfl | hp
    · exact .inl (Nat.le_trans hH hn)
    · exact D.above p hp
theorem Hold.put (D : Hold C h led) {d : Addr} {o : Obj} (hd : d ∈ keys led) (hs : ∀ b o, b ≠ d → h.get? b = some o → h'.get? b = some o) (ho : h'.get? d = some o) (hq : C.H.objs.size ≤ d) : Hold C h' (upd led d o) := by
  refine ⟨fun p hp => ?_, by rw [keys_upd]; exact D.nodup, fun p hp => ?_, fun b o' e => ?_⟩
  · rcases of_mem_upd hp with ⟨rfl, _⟩ | ⟨hp, hne⟩
    · exact ho
    · exact hs _ _ hne (D.at_ p hp)
  · rcases of_mem_upd hp with ⟨rfl, hm⟩ | ⟨hp, _⟩
    · exact .inl hq
    · exact D.above p hp
  · refine hs b o' (fun q => ?_) (D.keep b o' e)
    rw [q, D.off hd] at e
    cases e
end
end
section
section
variable {α β γ : Type} {P : Prop} {r : γ}
noncomputable def oaM (x : Option α) (k : α → Option γ) : Option γ := Option.rec (motive := fun _ => Option γ) none k x
noncomputable def oeM (x : Option α) (k : α → Option γ) (y : Option γ) : Option γ := Option.rec (motive := fun _ => Option γ) y k x
noncomputable def obM (x : Option (α × β)) (k : α → β → Option γ) : Option γ := Option.rec (motive := fun _ => Option γ) none (fun p => Prod.rec (motive := fun _ => Option γ) k p) x
noncomputable def otM (b : Bool) (x : Option γ) : Option γ := Bool.rec (motive := fun _ => Option γ) none x b
noncomputable def ouM (b : Bool) (x : Option γ) : Option γ := Bool.rec (motive := fun _ => Option γ) x none b
noncomputable def omM (b : Bool) (x y : Option γ) : Option γ := Bool.rec (motive := fun _ => Option γ) y x b
noncomputable def ozM (x : Option (Bool × β)) (k m : β → Option γ) : Option γ := obM x fun b o => omM b (k o) (m o)
theorem ob {x : Option (α × β)} {k : α → β → Option γ} (h : obM x k = some r) (c : ∀ a b, x = some (a, b) → k a b = some r → P) : P := by
  rcases x with _ | ⟨a, b⟩
  · cases h
  · exact c a b rfl h
theorem oa {x : Option α} {k : α → Option γ} (h : oaM x k = some r) (c : ∀ a, x = some a → k a = some r → P) : P := by
  cases x with
  | none => cases h
  | some a => exact c a rfl h
theorem oe {x : Option α} {k : α → Option γ} {y : Option γ} (h : oeM x k y = some r) (c : ∀ a, x = some a → k a = some r → P) (d : y = some r → P) : P := by
  cases x with
  | none => exact d h
  | some a => exact c a rfl h
theorem oee {x : Option α} {k : α → Option γ} {y : Option γ} (h : oeM x k y = some r) (c : ∀ a, x = some a → k a = some r → P) (d : x = none → y = some r → P) : P := by
  cases x with
  | none => exact d rfl h
  | some a => exact c a rfl h
theorem ot {b : Bool} {x : Option γ} (h : otM b x = some r) (c : b = true → x = some r → P) : P := by
  cases b with
  | true => exact c rfl h
  | false => cases h
theorem ou {b : Bool} {x : Option γ} (h : ouM b x = some r) (c : b = false → x = some r → P) : P := by
  cases b with
  | false => exact c rfl h
  | true => cases h
theorem om {b : Bool} {x y : Option γ} (h : omM b x y = some r) (c : b = true → x = some r → P) (d : b = false → y = some r → P) : P := by
  cases b with
  | true => exact c rfl h
  | false => exact d rfl h
theorem oi {p : Prop} [Decidable p] {x : Option γ} (h : (if p then x else none) = some r) (c : p → x = some r → P) : P := by
  by_cases q : p
  · rw [if_pos q] at h; exact c q h
  · rw [if_neg q] at h; cases h
theorem oz {x : Option (Bool × β)} {k m : β → Option γ} (h : ozM x k m = some r) (c : ∀ b, x = some (true, b) → k b = some r → P) (d : ∀ b, x = some (false, b) → m b = some r → P) : P := by
  rcases x with _ | ⟨_ | _, b⟩
  · cases h
  · exact d b rfl h
  · exact c b rfl h
theorem nfB {p : Prop} (h : false = true) : p := absurd h Bool.false_ne_true
theorem and2 {a b : Bool} (h : a.and b = true) : a = true ∧ b = true := Bool.and_eq_true_iff.mp h
theorem nsM {α : Type} {x : α} {p : Prop} (h : none = some x) : p := nomatch h
theorem oq {a a' : α} {b b' : β} {P : α → β → Prop} (h : some (a, b) = some (a', b')) (c : P a b) : P a' b' := by cases h; exact c
theorem oq3 {a a' : α} {b b' : β} {c c' : γ} {P : α → β → γ → Prop} (h : some (a, b, c) = some (a', b', c')) (k : P a b c) : P a' b' c' := by cases h; exact k
theorem bnot_eq {b : Bool} (h : b.not = true) : b = false := by cases b with
  | false => rfl
  | true => exact nfB h
theorem os {a a' : α} {P : α → Prop} (h : some a = some a') (c : P a) : P a' := by cases h; exact c
theorem ob_eq {x : Option (α × β)} {k : α → β → Option γ} {a : α} {b : β} {R : Option γ} (h : x = some (a, b)) (c : k a b = R) : obM x k = R := by subst h; exact c
theorem oa_eq {x : Option α} {k : α → Option γ} {a : α} {R : Option γ} (h : x = some a) (c : k a = R) : oaM x k = R := by subst h; exact c
theorem oe_eq {x : Option α} {k : α → Option γ} {y : Option γ} {a : α} {R : Option γ} (h : x = some a) (c : k a = R) : oeM x k y = R := by subst h; exact c
theorem on_eq {x : Option α} {k : α → Option γ} {y : Option γ} {R : Option γ} (h : x = none) (c : y = R) : oeM x k y = R := by subst h; exact c
theorem ot_eq {b : Bool} {x R : Option γ} (h : b = true) (c : x = R) : otM b x = R := by subst h; exact c
theorem ou_eq {b : Bool} {x R : Option γ} (h : b = false) (c : x = R) : ouM b x = R := by subst h; exact c
end
noncomputable def jInt : AV → Option Int
  | .int i => some i
  | _ => none
noncomputable def jBool : AV → Option Bool
  | .bool i => some i
  | _ => none
noncomputable def jStr : AV → Option Nm
  | .str i => some i
  | _ => none
noncomputable def jTup : AV → Option (List AV)
  | .tup i => some i
  | _ => none
noncomputable def jRef : AV → Option Nat
  | .ref i => some i
  | _ => none
noncomputable def jG : AV → Option Nat
  | .g i => some i
  | _ => none
noncomputable def jNat : Int → Option Nat
  | .ofNat n => some n
  | .negSucc _ => none
noncomputable def jLst : AObj → Option (List AV)
  | .list xs => some xs
  | _ => none
noncomputable def jFix : AObj → Option (List AV)
  | .fix xs => some xs
  | _ => none
noncomputable def jDct : AObj → Option (List Nm × List AV × Option Nat)
  | .dict ks xs ep => some (ks, xs, ep)
  | _ => none
theorem jInt_ok {a : AV} {i : Int} (h : jInt a = some i) : a = .int i := by cases a <;> first | exact congrArg _ (Option.some.inj h) | exact nsM h
theorem jBool_ok {a : AV} {i : Bool} (h : jBool a = some i) : a = .bool i := by cases a <;> first | exact congrArg _ (Option.some.inj h) | exact nsM h
theorem jStr_ok {a : AV} {i : Nm} (h : jStr a = some i) : a = .str i := by cases a <;> first | exact congrArg _ (Option.some.inj h) | exact nsM h
theorem jTup_ok {a : AV} {i : List AV} (h : jTup a = some i) : a = .tup i := by cases a <;> first | exact congrArg _ (Option.some.inj h) | exact nsM h
theorem jRef_ok {a : AV} {i : Nat} (h : jRef a = some i) : a = .ref i := by cases a <;> first | exact congrArg _ (Option.some.inj h) | exact nsM h
theorem jG_ok {a : AV} {i : Nat} (h : jG a = some i) : a = .g i := by cases a <;> first | exact congrArg _ (Option.some.inj h) | exact nsM h
theorem jNat_ok {a : Int} {i : Nat} (h : jNat a = some i) : a = .ofNat i := by cases a <;> first | exact congrArg _ (Option.some.inj h) | exact nsM h
theorem jLst_ok {a : AObj} {i : List AV} (h : jLst a = some i) : a = .list i := by cases a <;> first | exact congrArg _ (Option.some.inj h) | exact nsM h
theorem jFix_ok {a : AObj} {i : List AV} (h : jFix a = some i) : a = .fix i := by cases a <;> first | exact congrArg _ (Option.some.inj h) | exact nsM h
theorem jDct_ok {a : AObj} {ks : List Nm} {xs : List AV} {ep : Option Nat} (h : jDct a = some (ks, xs, ep)) : a = .dict ks xs ep := by cases a <;> first | (cases h; rfl) | exact nsM h
noncomputable def eqN : Nm → Nm → Bool
  | [], [] => true
  | a :: r, b :: t => (Nat.beq a b).and (eqN r t)
  | _, _ => false
theorem eqN_iff : ∀ {a b : Nm}, eqN a b = true ↔ a = b
  | [], [] => by simp [eqN]
  | [], _ :: _ => by simp [eqN]
  | _ :: _, [] => by simp [eqN]
  | a :: r, b :: t => by
    have ih := @eqN_iff r t
    simp only [eqN, Bool.and_eq_true, List.cons.injEq]
    exact ⟨fun h => ⟨Nat.eq_of_beq_eq_true h.1, ih.mp h.2⟩, fun h => ⟨by rw [h.1]; exact Nat.beq_refl b, ih.mpr h.2⟩⟩
theorem eqN_false {a b : Nm} : eqN a b = false ↔ a ≠ b := by
  constructor
  · intro h e; rw [eqN_iff.mpr e] at h; cases h
  · intro h; cases q : eqN a b with
    | false => rfl
    | true => exact absurd (eqN_iff.mp q) h
theorem beq_toS (x y : Nm) : (toS x == toS y) = eqN x y := by
  cases q : eqN x y with
  | true => rw [eqN_iff] at q; subst q; simp
  | false => rw [eqN_false] at q; simp; exact fun e => q (toS_inj e)
noncomputable abbrev Loc := List (Nm × AV)
noncomputable def lk : Loc → Nm → Option AV
  | [], _ => none
  | p :: r, x => match eqN p.1 x with
    | true => some p.2
    | false => lk r x
noncomputable def stv : Loc → Nm → AV → Loc
  | [], x, v => [(x, v)]
  | p :: r, x, v => match eqN p.1 x with
    | true => (x, v) :: r
    | false => p :: stv r x v
theorem lk_stv (l : Loc) (x y : Nm) (v : AV) : lk (stv l x v) y = if y = x then some v else lk l y := by
  induction l with
  | nil =>
    show (match eqN x y with | true => some v | false => none) = _
    cases h : eqN x y with
    | true => rw [eqN_iff] at h; simp [h]
    | false => rw [eqN_false] at h; simp [lk, Ne.symm h]
  | cons p r ih =>
    unfold stv
    cases h : eqN p.1 x with
    | true =>
      rw [eqN_iff] at h
      show (match eqN x y with | true => some v | false => lk r y) = if y = x then some v else (match eqN p.1 y with | true => some p.2 | false => lk r y)
      cases q : eqN x y with
      | true => rw [eqN_iff] at q; simp [q]
      | false =>
        rw [h, q]
        rw [eqN_false] at q
        simp [Ne.symm q]
    | false =>
      rw [eqN_false] at h
      show (match eqN p.1 y with | true => some p.2 | false => lk (stv r x v) y) = if y = x then some v else (match eqN p.1 y with | true => some p.2 | false => lk r y)
      cases q : eqN p.1 y with
      | true =>
        rw [eqN_iff] at q
        have : y ≠ x := fun e => h (q.trans e)
        simp [this]
      | false => exact ih
noncomputable def dget : List Nm → List AV → Nm → Option AV
  | k :: ks, x :: xs, n => match eqN k n with
    | true => some x
    | false => dget ks xs n
  | _, _, _ => none
noncomputable def dhas : List Nm → Nm → Bool
  | [], _ => false
  | k :: ks, n => (eqN k n).or (dhas ks n)
noncomputable def dput : List Nm → List AV → Nm → AV → List AV
  | k :: ks, x :: xs, n, v => match eqN k n with
    | true => v :: xs
    | false => x :: dput ks xs n v
  | _, xs, _, _ => xs
mutual
inductive ME where
  | c (k : AV)
  | lv (x : Nm)
  | gl (i : Nat)
  | tup (es : MEs)
  | lst (es : MEs)
  | dic (ks : List Nm) (es : MEs)
  | attr (e : ME) (x : Nm)
  | sub (e i : ME)
  | sl (e : ME) (n : Nat)
  | call (f : ME) (as : MEs)
  | mcall (o : ME) (x : Nm) (as : MEs)
  | cmp (op : CmpOp) (l r : ME)
  | and (es : MEs)
  | or (es : MEs)
  | not (e : ME)
  | neg (e : ME)
  | bin (op : Operator) (l r : ME)
  | ife (t a b : ME)
  | comp (elt : ME) (tgt : List Nm) (it : ME) (conds : MEs)
inductive MEs where
  | nil
  | cons (e : ME) (es : MEs)
end
mutual
inductive MS where
  | expr (e : ME)
  | asg (x : Nm) (e : ME)
  | asgT (xs : List Nm) (e : ME)
  | asgA (o : ME) (x : Nm) (e : ME)
  | asgS (o i : ME) (e : ME)
  | ifS (t : ME) (a b : MSs)
  | whileS (t : ME) (b : MSs)
  | forS (xs : List Nm) (it : ME) (b : MSs)
  | forE (xs : List Nm) (it : ME) (b : MSs)
  | forR (x : Nm) (it : ME) (b : MSs)
  | ret (e : ME)
  | tryS (b : MSs)
  | fail
inductive MSs where
  | nil
  | cons (s : MS) (ss : MSs)
end
noncomputable abbrev Objs := List AObj
inductive FL where
  | next
  | ret (v : AV)
noncomputable def mapA : List Nm → List AV := fun l => l.map fun k => AV.str k
mutual
noncomputable def eqD : AV → AV → Option Bool
  | .none, b => match b with
    | .none => some true
    | .bool _ => some false
    | .int _ => some false
    | .str _ => some false
    | .tup _ => some false
    | _ => none
  | .bool a, b => match b with
    | .bool b => some (match a with | true => b | false => b.not)
    | .none => some false
    | .str _ => some false
    | .tup _ => some false
    | _ => none
  | .int a, b => match b with
    | .int b => some (decide (a = b))
    | .none => some false
    | _ => none
  | .str a, b => match b with
    | .str b => some (eqN a b)
    | .none => some false
    | .bool _ => some false
    | .tup _ => some false
    | _ => none
  | .tup xs, b => match b with
    | .tup ys => eqDs xs ys
    | .none => some false
    | .bool _ => some false
    | .str _ => some false
    | _ => none
  | _, _ => none
noncomputable def eqDs : List AV → List AV → Option Bool
  | [], [] => some true
  | [], _ :: _ => some false
  | _ :: _, [] => some false
  | x :: xs, y :: ys => oaM (eqD x y) fun b => oaM (eqDs xs ys) fun c => some (b.and c)
end
noncomputable def okL : Nm → Bool
  | [] => true
  | a :: r => (Nat.blt a 1114112).and (okL r)
mutual
noncomputable def okD (n : Nat) (v : AV) : Bool := match v with
  | .none => true
  | .bool _ => true
  | .int _ => true
  | .str l => okL l
  | .tup xs => match n with
    | 0 => false
    | n + 1 => okDs n xs
  | _ => false
noncomputable def okDs : Nat → List AV → Bool
  | _, [] => true
  | n, x :: xs => (okD n x).and (okDs n xs)
end
noncomputable def eqT8 (a b : AV) : Option Bool := otM ((okD 8 a).and (okD 8 b)) <| eqD a b
noncomputable def eqTop (a b : AV) : Option Bool := oeM (jStr a) (fun x => oeM (jStr b) (fun y => some (eqN x y)) (eqT8 a b)) (eqT8 a b)
noncomputable def truthyA (v : AV) : Option Bool := match v with
  | .none => some false
  | .bool b => some b
  | .int i => some (!decide (i = 0))
  | .tup xs => match xs with
    | [] => some false
    | _ :: r => otM (Nat.blt r.length 1000) <| some true
  | _ => none
noncomputable def itemA (xs : List AV) (i : Int) : Option AV := match i with
  | .ofNat n => otM (Nat.blt n 1000) <| xs[n]?
  | .negSucc n => otM ((Nat.blt n xs.length).and (Nat.blt n 1000)) <| xs[xs.length - (n + 1)]?
noncomputable def subO (q : Option AObj) (j : AV) : Option AV := oaM q fun ob => oeM (jDct ob) (fun p => oaM (jStr j) fun n => dget p.1 p.2.1 n) (oaM (jInt j) fun i => oaM (jNat i) fun n => oeM (jLst ob) (fun xs => itemA xs (.ofNat n)) (oaM (jFix ob) fun xs => itemA xs (.ofNat n)))
noncomputable def subA (o : Objs) (a j : AV) : Option AV := match a with
  | .tup xs => oaM (jInt j) fun i => itemA xs i
  | .str l => oaM (jInt j) fun i => oaM (jNat i) fun n => otM (Nat.blt n 1000) <| oaM (l[n]?) fun c => some (.str [c])
  | .fdict ks xs => oaM (jStr j) fun n => dget ks xs n
  | .fsub ks xs => oaM (jStr j) fun n => dget ks xs n
  | .ref i => subO o[i]? j
  | _ => none
noncomputable def handV (v : AV) : Option AV := match v with
  | .top => none
  | .g _ => none
  | v => some v
noncomputable def handA (r : Option AV) : Option AV := oaM r fun v => handV v
noncomputable def hasN : List Nm → Nm → Bool
  | [], _ => false
  | k :: ks, n => (eqN k n).or (hasN ks n)
noncomputable def jInst : AObj → Option (Nat × Nat)
  | .inst c d => some (c, d)
  | _ => none
theorem jInst_ok {a : AObj} {c d : Nat} (h : jInst a = some (c, d)) : a = .inst c d := by cases a <;> first | (cases h; rfl) | exact nsM h
noncomputable def attrA (fl : Nat → List Nm) (o : Objs) (a : AV) (n : Nm) : Option AV := match a with
  | .finst c ks xs => otM (hasN (fl c) n) <| handA (dget ks xs n)
  | .ref i => oaM (o[i]?) fun ob => obM (jInst ob) fun c d => otM (hasN (fl c) n) <| oaM (o[d]?) fun ob => obM (jDct ob) fun ks p => handA (dget ks p.1 n)
  | _ => none
noncomputable def emptyL (o : Objs) (a : AV) : Option Bool := oaM (jRef a) fun i => oaM (o[i]?) fun ob => oaM (jLst ob) fun xs => some (match xs with | [] => true | _ :: _ => false)
noncomputable def strsA : List AV → Option (List Nm)
  | [] => some []
  | a :: r => oaM (jStr a) fun l => oaM (strsA r) fun ls => some (l :: ls)
noncomputable def inO (n : Nm) (ob : AObj) : Option Bool := oeM (jDct ob) (fun p => some (dhas p.1 n)) (oaM (jLst ob) fun xs => oaM (strsA xs) fun ls => some (dhas ls n))
noncomputable def inA (o : Objs) (a b : AV) : Option Bool := oaM (jStr a) fun n => match b with
    | .fdict ks _ => some (dhas ks n)
    | .fsub ks _ => otM (dhas ks n) <| some true
    | .tup xs => oaM (strsA xs) fun ls => some (dhas ls n)
    | .ref i => oaM (o[i]?) fun ob => inO n ob
    | _ => none
noncomputable def isNoneA : AV → Option Bool
  | .none => some true
  | .top => none
  | .g _ => none
  | _ => some false
noncomputable def emp2 (p q : Option Bool) : Option Bool := oaM p fun a => oaM q fun b => otM (a.or b) <| some (a.and b)
noncomputable def eqC (o : Objs) (a b : AV) : Option Bool := oeM (jRef a) (fun i => oeM (jRef b) (fun j => emp2 (emptyL o (.ref i)) (emptyL o (.ref j))) (eqTop a b)) (eqTop a b)
noncomputable def cmpI (a b : AV) (k : Int → Int → Bool) : Option Bool := oaM (jInt a) fun x => oaM (jInt b) fun y => some (k x y)
noncomputable def isA (a b : AV) : Option Bool := match b with
  | .none => isNoneA a
  | _ => none
noncomputable def negO (x : Option Bool) : Option Bool := oaM x fun a => some a.not
noncomputable def cmpA (o : Objs) (op : CmpOp) (a b : AV) : Option Bool := match op with
  | .Eq => eqC o a b
  | .NotEq => negO (eqC o a b)
  | .Lt => cmpI a b fun a b => decide (a < b)
  | .LtE => cmpI a b fun a b => decide (a ≤ b)
  | .Gt => cmpI a b fun a b => decide (b < a)
  | .GtE => cmpI a b fun a b => decide (b ≤ a)
  | .In => inA o a b
  | .NotIn => negO (inA o a b)
  | .Is => isA a b
  | .IsNot => negO (isA a b)
noncomputable def int2 (a b : AV) (k : Int → Int → Option AV) : Option AV := oaM (jInt a) fun x => oaM (jInt b) fun y => k x y
noncomputable def addA (a b : AV) : Option AV := oeM (jInt a) (fun x => oaM (jInt b) fun y => some (.int (x + y))) (oeM (jStr a) (fun x => oaM (jStr b) fun y => if x.length + y.length ≤ 1000 then some (.str (x ++ y)) else none) (oaM (jTup a) fun x => oaM (jTup b) fun y => if x.length + y.length ≤ 1000 then some (.tup (x ++ y)) else none))
noncomputable def binA (op : Operator) (a b : AV) : Option AV := match op with
  | .Add => addA a b
  | .Sub => int2 a b fun a b => some (.int (a - b))
  | .Mult => int2 a b fun a b => if -(2 ^ 60) < b ∧ b < 2 ^ 60 then some (.int (a * b)) else none
  | .Mod => int2 a b fun a b => if 0 < b then some (.int (Int.fmod a b)) else none
  | .FloorDiv => int2 a b fun a b => if 0 < b ∧ b < 1000 then some (.int (Int.fdiv a b)) else none
  | .Pow => int2 a b fun a b => oaM (jNat b) fun n => if n ≤ 1000 ∧ a.natAbs < 1000 then some (.int (a ^ n)) else none
  | _ => none
inductive Src where
  | items (xs : List AV)
  | list (i : Nat)
  | dict (i n ep : Nat)
noncomputable def srcO (i : Nat) (ob : AObj) : Option Src := oeM (jLst ob) (fun _ => some (.list i)) (obM (jDct ob) fun ks p => oaM p.2 fun ep => some (.dict i ks.length ep))
noncomputable def srcOf (o : Objs) (v : AV) : Option Src := match v with
  | .tup xs => some (.items xs)
  | .fdict ks _ => some (.items (mapA ks))
  | .str l => some (.items (l.map fun c => .str [c]))
  | .ref i => oaM (o[i]?) fun ob => srcO i ob
  | _ => none
noncomputable def dictItem (k n ep : Nat) (ob : AObj) : Option (Option AV) := obM (jDct ob) fun ks p => oaM p.2 fun ep' => otM ((Nat.beq ep ep').and (Nat.beq n ks.length)) <| some (ks[k]?.map AV.str)
noncomputable def srcItem (o : Objs) (k : Nat) (src : Src) : Option (Option AV) := match src with
  | .items xs => some xs[k]?
  | .list i => oaM (o[i]?) fun ob => oaM (jLst ob) fun xs => some xs[k]?
  | .dict i n ep => oaM (o[i]?) fun ob => dictItem k n ep ob
noncomputable def bindGo : List Nm → List AV → Loc → Option Loc
  | [], vs, l => match vs with
    | [] => some l
    | _ :: _ => none
  | x :: xs, vs, l => match vs with
    | [] => none
    | v :: vs => bindGo xs vs (stv l x v)
noncomputable def bindV (xs : List Nm) (v : AV) (l : Loc) : Option Loc := oaM (jTup v) fun vs => bindGo xs vs l
noncomputable def bindT (xs : List Nm) (v : AV) (l : Loc) : Option Loc := match xs with
  | [] => bindV [] v l
  | x :: r => match r with
    | [] => some (stv l x v)
    | y :: r => bindV (x :: y :: r) v l
noncomputable def rmv (xs : List Nm) : Loc → Loc
  | [] => []
  | p :: r => match hasN xs p.1 with
    | true => rmv xs r
    | false => p :: rmv xs r
structure Orc where
  call : Nat → List AV → Objs → Option (AV × Objs)
  meth : Nat → Nm → Option Nat
  gls : List (Nm × AV)
  fl : Nat → List Nm
noncomputable abbrev EV := Loc → Objs → Option (AV × Objs)
noncomputable abbrev TV := Loc → Objs → Option (Bool × Objs)
noncomputable abbrev LV := Loc → Objs → Option (List AV × Objs)
noncomputable def mkT (f : EV) : EV × TV := (f, fun l s => obM (f l s) fun v s' => oaM (truthyA v) fun b => some (b, s'))
noncomputable def mkB (f : TV) : EV × TV := (fun l s => obM (f l s) fun b s' => some (.bool b, s'), f)
noncomputable def lput (o : Objs) (i : Nat) (x : AObj) : Objs := o.set i x
noncomputable def listExt (o : Objs) (i : Nat) (xs : List AV) (v : AV) : Option (AV × Objs) := oaM (jRef v) fun j => ouM (Nat.beq i j) <| oaM (o[j]?) fun ob => oaM (jLst ob) fun ys => if xs.length + ys.length < 1000 then some (.none, lput o i (.list (xs ++ ys))) else none
noncomputable def listIns (o : Objs) (i : Nat) (xs : List AV) (a v : AV) : Option (AV × Objs) := oaM (jInt a) fun z => oaM (jNat z) fun k => if k ≤ xs.length ∧ xs.length < 1000 then some (.none, lput o i (.list (xs.take k ++ v :: xs.drop k))) else none
noncomputable def listMeth (o : Objs) (i : Nat) (xs : List AV) (x : Nm) (as : List AV) : Option (AV × Objs) := match as with
  | [] => none
  | a :: r => match r with
    | [] => omM (eqN x [97, 112, 112, 101, 110, 100]) (if xs.length < 1000 then some (.none, lput o i (.list (xs ++ [a]))) else none) (otM (eqN x [101, 120, 116, 101, 110, 100]) <| listExt o i xs a)
    | v :: r => otM (eqN x [105, 110, 115, 101, 114, 116]) <| match r with
        | [] => listIns o i xs a v
        | _ :: _ => none
noncomputable def setSub (o : Objs) (c i v : AV) : Option Objs := oaM (jRef c) fun d => oaM (o[d]?) fun ob => oeM (jDct ob) (fun p => oaM (jStr i) fun n => omM (dhas p.1 n) (if p.1.length < 1000 then some (lput o d (.dict p.1 (dput p.1 p.2.1 n v) p.2.2)) else none) (if p.1.length < 1000 then some (lput o d (.dict (p.1 ++ [n]) (p.2.1 ++ [v]) (p.2.2.map (· + 1)))) else none)) (oaM (jLst ob) fun xs => oaM (jInt i) fun z => oaM (jNat z) fun k => if k < xs.length ∧ k < 1000 then some (lput o d (.list (xs.set k v))) else none)
noncomputable def setAtt (fl : Nat → List Nm) (o : Objs) (a : AV) (n : Nm) (v : AV) : Option Objs := oaM (jRef a) fun i => oaM (o[i]?) fun ob => obM (jInst ob) fun c d => otM (hasN (fl c) n) <| oaM (o[d]?) fun ob => obM (jDct ob) fun ks p => omM (dhas ks n) (if ks.length < 900 then some (lput o d (.dict ks (dput ks p.1 n v) p.2)) else none) (if ks.length < 900 then some (lput o d (.dict (ks ++ [n]) (p.1 ++ [v]) (p.2.map (· + 1)))) else none)
noncomputable def compGo (src : Src) (tgt : List Nm) (cond : TV) (elt : EV) (a : Nat) (l : Loc) : Nat → Nat → Loc → Objs → Option Objs
  | 0, _, _, _ => none
  | f + 1, k, l', o => oaM (srcItem o k src) fun q => oeM q (fun v => oaM (bindT tgt v l') fun l1 => ozM (cond l1 o)
      (fun o1 => obM (elt l1 o1) fun v o2 => oaM o2[a]? fun ob => oaM (jLst ob) fun xs => if xs.length < 1000 then compGo src tgt cond elt a l f (k + 1) l1 (lput o2 a (.list (xs ++ [v]))) else none)
      (fun o1 => compGo src tgt cond elt a l f (k + 1) l1 o1)) (some o)
noncomputable def lstAt (o : Objs) (v : AV) : Option Nat := oaM (jRef v) fun i => oaM (o[i]?) fun ob => oaM (jLst ob) fun _ => some i
noncomputable def instO (o : Objs) (ob : AObj) : Option (Nat × List Nm) := obM (jInst ob) fun c d => oaM (o[d]?) fun ob => obM (jDct ob) fun ks _ => some (c, ks)
noncomputable def instA (o : Objs) (v : AV) : Option (Nat × List Nm) := match v with
  | .finst c ks _ => some (c, ks)
  | .ref i => oaM (o[i]?) fun ob => instO o ob
  | _ => none
noncomputable def fuelC : Nat := 100
mutual
noncomputable def ev (O : Orc) : ME → EV × TV
  | .c k => mkT fun _ o => some (k, o)
  | .lv x => mkT fun l o => oaM (lk l x) fun v => some (v, o)
  | .gl i => mkT fun _ o => oaM (O.gls[i]?) fun p => some (p.2, o)
  | .tup es => mkT fun l o => obM (evs O es l o) fun vs o => some (.tup vs, o)
  | .lst es => mkT fun l o => obM (evs O es l o) fun vs o => some (.ref o.length, o ++ [.list vs])
  | .dic ks es => mkT fun l o => obM (evs O es l o) fun vs o => match ks with
      | [] => some (.ref o.length, o ++ [.dict [] [] (some 0)])
      | k :: ks => some (.ref o.length, o ++ [.dict (k :: ks) vs none])
  | .attr e x => mkT fun l o => obM ((ev O e).1 l o) fun v o => oaM (attrA O.fl o v x) fun r => some (r, o)
  | .sub e i => mkT fun l o => obM ((ev O e).1 l o) fun v o => obM ((ev O i).1 l o) fun j o => oaM (subA o v j) fun r => some (r, o)
  | .sl e n => mkT fun l o => obM ((ev O e).1 l o) fun v o => oaM (jStr v) fun t => if t.length < 1000 ∧ PySem.Txt.slice (toS t) none (some (n : Int)) = toS (t.take n) then some (.str (t.take n), o) else none
  | .call f as => mkT fun l o => obM ((ev O f).1 l o) fun v o => oaM (jG v) fun i => obM (evs O as l o) fun vs o => O.call i vs o
  | .mcall e x as => mkT fun l o => obM ((ev O e).1 l o) fun v o => oeM (lstAt o v) (fun i => obM (evs O as l o) fun vs o => oaM (o[i]?) fun ob => oaM (jLst ob) fun xs => listMeth o i xs x vs) (obM (instA o v) fun c ks => ouM (dhas ks x) <| oaM (O.meth c x) fun g => obM (evs O as l o) fun vs o => O.call g (v :: vs) o)
  | .cmp op a b => mkB fun l o => obM ((ev O a).1 l o) fun u o => obM ((ev O b).1 l o) fun v o => oaM (cmpA o op u v) fun r => some (r, o)
  | .and es => evA O es
  | .or es => evO O es
  | .not e => (fun l o => obM ((ev O e).1 l o) fun v o => oaM (truthyA v) fun b => some (.bool (!b), o), fun l o => obM ((ev O e).2 l o) fun b o => some (!b, o))
  | .neg e => mkT fun l o => obM ((ev O e).1 l o) fun v o => oaM (jInt v) fun i => some (.int (-i), o)
  | .bin op a b => mkT fun l o => obM ((ev O a).1 l o) fun u o => obM ((ev O b).1 l o) fun v o => oaM (binA op u v) fun r => some (r, o)
  | .ife t a b => (fun l o => ozM ((ev O t).2 l o) (fun o => (ev O a).1 l o) (fun o => (ev O b).1 l o), fun l o => ozM ((ev O t).2 l o) (fun o => (ev O a).2 l o) (fun o => (ev O b).2 l o))
  | .comp elt tgt it conds => mkT fun l o => obM ((ev O it).1 l o) fun v o => oaM (srcOf o v) fun src => oaM (compGo src tgt (evAll O conds) (ev O elt).1 o.length l fuelC 0 (rmv ([46, 48] :: tgt) l) (o ++ [.list []])) fun o' => some (.ref o.length, o')
noncomputable def evs (O : Orc) : MEs → LV
  | .nil => fun _ o => some ([], o)
  | .cons e es => fun l o => obM ((ev O e).1 l o) fun v o => obM (evs O es l o) fun vs o => some (v :: vs, o)
noncomputable def evA (O : Orc) : MEs → EV × TV
  | .nil => (fun _ _ => none, fun _ o => some (true, o))
  | .cons e es => match es with
    | .nil => ((ev O e).1, (ev O e).2)
    | .cons e2 es2 => (fun l o => obM ((ev O e).1 l o) fun v o => oaM (truthyA v) fun b => omM b ((evA O (.cons e2 es2)).1 l o) (some (v, o)), fun l o => ozM ((ev O e).2 l o) (fun o => (evA O (.cons e2 es2)).2 l o) (fun o => some (false, o)))
noncomputable def evO (O : Orc) : MEs → EV × TV
  | .nil => (fun _ _ => none, fun _ o => some (false, o))
  | .cons e es => match es with
    | .nil => ((ev O e).1, (ev O e).2)
    | .cons e2 es2 => (fun l o => obM ((ev O e).1 l o) fun v o => oaM (truthyA v) fun b => omM b (some (v, o)) ((evO O (.cons e2 es2)).1 l o), fun l o => ozM ((ev O e).2 l o) (fun o => some (true, o)) (fun o => (evO O (.cons e2 es2)).2 l o))
noncomputable def evAll (O : Orc) : MEs → TV
  | .nil => fun _ o => some (true, o)
  | .cons e es => fun l o => ozM ((ev O e).2 l o) (fun o => evAll O es l o) (fun o => some (false, o))
end
noncomputable abbrev SV := Loc → Objs → Option (FL × Loc × Objs)
noncomputable def oxM (x : Option (FL × Loc × Objs)) (k : SV) : Option (FL × Loc × Objs) := Option.rec (motive := fun _ => Option (FL × Loc × Objs)) none (fun p => Prod.rec (motive := fun _ => Option (FL × Loc × Objs)) (fun fl q => Prod.rec (motive := fun _ => Option (FL × Loc × Objs)) (fun l o => FL.rec (motive := fun _ => Option (FL × Loc × Objs)) (k l o) (fun v => some (.ret v, l, o)) fl) q) p) x
theorem ox {x : Option (FL × Loc × Objs)} {k : SV} {r : FL × Loc × Objs} {P : Prop} (h : oxM x k = some r) (c : ∀ l o, x = some (.next, l, o) → k l o = some r → P) (d : ∀ v l o, x = some (.ret v, l, o) → some (FL.ret v, l, o) = some r → P) : P := by
  rcases x with _ | ⟨_ | v, l, o⟩
  · cases h
  · exact c l o rfl h
  · exact d v l o rfl h
theorem ox_next {x : Option (FL × Loc × Objs)} {k : SV} {l : Loc} {o : Objs} {R : Option (FL × Loc × Objs)} (h : x = some (.next, l, o)) (c : k l o = R) : oxM x k = R := by subst h; exact c
theorem ox_ret {x : Option (FL × Loc × Objs)} {k : SV} {v : AV} {l : Loc} {o : Objs} (h : x = some (.ret v, l, o)) : oxM x k = some (.ret v, l, o) := by subst h; rfl
noncomputable def whGo (t : TV) (b : SV) : Nat → Loc → Objs → Option (FL × Loc × Objs)
  | 0, _, _ => none
  | f + 1, l, o => ozM (t l o) (fun o => oxM (b l o) fun l o => whGo t b f l o) (fun o => some (.next, l, o))
noncomputable def forGo (src : Src) (tgt : List Nm) (b : SV) : Nat → Nat → Loc → Objs → Option (FL × Loc × Objs)
  | 0, _, _, _ => none
  | f + 1, k, l, o => oaM (srcItem o k src) fun q => oeM q (fun v => oaM (bindT tgt v l) fun l => oxM (b l o) fun l o => forGo src tgt b f (k + 1) l o) (some (.next, l, o))
noncomputable def enumA (xs : List AV) : List AV := xs.zipIdx.map fun p => .tup [.int (.ofNat p.2), p.1]
noncomputable def rangeA (n : Nat) : List AV := (List.range n).map fun i => .int (.ofNat i)
mutual
noncomputable def exS (O : Orc) : MS → SV
  | .expr e => fun l o => obM ((ev O e).1 l o) fun _ o => some (.next, l, o)
  | .asg x e => fun l o => obM ((ev O e).1 l o) fun v o => some (.next, stv l x v, o)
  | .asgT xs e => fun l o => obM ((ev O e).1 l o) fun v o => oaM (jTup v) fun vs => oaM (bindGo xs vs l) fun l => some (.next, l, o)
  | .asgA c x e => fun l o => obM ((ev O e).1 l o) fun v o => obM ((ev O c).1 l o) fun u o => oaM (setAtt O.fl o u x v) fun o => some (.next, l, o)
  | .asgS c i e => fun l o => obM ((ev O e).1 l o) fun v o => obM ((ev O c).1 l o) fun u o => obM ((ev O i).1 l o) fun j o => oaM (setSub o u j v) fun o => some (.next, l, o)
  | .ifS t a b => fun l o => ozM ((ev O t).2 l o) (fun o => exSs O a l o) fun o => exSs O b l o
  | .whileS t b => fun l o => whGo (ev O t).2 (exSs O b) fuelC l o
  | .forS xs it b => fun l o => obM ((ev O it).1 l o) fun v o => oaM (srcOf o v) fun src => forGo src xs (exSs O b) fuelC 0 l o
  | .forE xs it b => fun l o => obM ((ev O it).1 l o) fun v o => oaM (jTup v) fun vs => forGo (.items (enumA vs)) xs (exSs O b) fuelC 0 l o
  | .forR x it b => fun l o => obM ((ev O it).1 l o) fun v o => oaM (jInt v) fun z => oaM (jNat z) fun n => if n < 64 then forGo (.items (rangeA n)) [x] (exSs O b) fuelC 0 l o else none
  | .ret e => fun l o => obM ((ev O e).1 l o) fun v o => some (.ret v, l, o)
  | .tryS b => fun l o => exSs O b l o
  | .fail => fun _ _ => none
noncomputable def exSs (O : Orc) : MSs → SV
  | .nil => fun l o => some (.next, l, o)
  | .cons s ss => fun l o => oxM (exS O s l o) fun l o => exSs O ss l o
end
noncomputable def leN : Nm → Nm → Bool
  | [], _ => true
  | _ :: _, [] => false
  | a :: r, b :: t => match Nat.blt a b with
    | true => true
    | false => match Nat.beq a b with
      | true => leN r t
      | false => false
noncomputable def insN (x : Nm) : List Nm → List Nm
  | [] => [x]
  | y :: r => match leN x y with
    | true => x :: y :: r
    | false => y :: insN x r
noncomputable def sortN : List Nm → List Nm
  | [] => []
  | x :: r => insN x (sortN r)
noncomputable def pairV (a : AV) : Option (Nm × AV) := oaM (jTup a) fun xs => match xs with
    | [] => none
    | k :: r => match r with
      | [] => none
      | v :: r => match r with
        | [] => oaM (jStr k) fun k => some (k, v)
        | _ :: _ => none
noncomputable def pairsA : List AV → Option (List Nm × List AV)
  | [] => some ([], [])
  | a :: r => obM (pairV a) fun k v => obM (pairsA r) fun ks xs => ouM (hasN ks k) <| some (k :: ks, v :: xs)
noncomputable def lenA (o : Objs) (a : AV) : Option Nat := oeM (jStr a) (fun l => some l.length) (oaM (jRef a) fun i => oaM (o[i]?) fun ob => oeM (jLst ob) (fun xs => some xs.length) (oaM (jFix ob) fun xs => some xs.length))
noncomputable def bi3 (i : Nat) (o : Objs) (ob : AObj) : Option (AV × Objs) := omM (Nat.beq i 51) (oaM (jDct ob) fun p => if p.1.length < 64 then some (.ref o.length, o ++ [.list (mapA (sortN p.1))]) else none) (oaM (jLst ob) fun xs => omM (Nat.beq i 52) (obM (pairsA xs) fun ks ys => if xs.length < 800 then some (.ref o.length, o ++ [.dict ks ys none]) else none) (otM (Nat.beq i 53) <| if xs.length < 1000 then some (.tup xs, o) else none))
noncomputable def b2i (b : Bool) : Int := match b with
  | true => 1
  | false => 0
noncomputable def bi1 (i : Nat) (o : Objs) (a : AV) : Option (AV × Objs) := omM (Nat.beq i 50) (oaM (lenA o a) fun n => if n < 1000 then some (.int (.ofNat n), o) else none) (omM (Nat.beq i 54) (oeM (jInt a) (fun z => some (.int z, o)) (oaM (jBool a) fun b => some (.int (b2i b), o))) (oaM (jRef a) fun j => oaM (o[j]?) fun ob => bi3 i o ob))
noncomputable def bi (i : Nat) (as : List AV) (o : Objs) : Option (AV × Objs) := match as with
  | [] => none
  | a :: r => match r with
    | [] => bi1 i o a
    | b :: t => match t with
      | [] => oaM (jInt a) fun x => oaM (jInt b) fun y => omM (Nat.beq i 55) (some (.int (max x y), o)) (otM (Nat.beq i 56) <| some (.int (min x y), o))
      | _ :: _ => none
end
section
noncomputable def n__ : Nm := []
noncomputable def n_Add_ : Nm := [65, 100, 100]
noncomputable def n_Done_ : Nm := [68, 111, 110, 101]
noncomputable def n_Error_ : Nm := [69, 114, 114, 111, 114]
noncomputable def n_Levels_ : Nm := [76, 101, 118, 101, 108, 115]
noncomputable def n_Lock_ : Nm := [76, 111, 99, 107]
noncomputable def n_N_ : Nm := [78]
noncomputable def n_NamedRow_ : Nm := [78, 97, 109, 101, 100, 82, 111, 119]
noncomputable def n_PLAIN_ : Nm := [80, 76, 65, 73, 78]
noncomputable def n_Reached_ : Nm := [82, 101, 97, 99, 104, 101, 100]
noncomputable def n_T_ : Nm := [84]
noncomputable def n_Unlock_ : Nm := [85, 110, 108, 111, 99, 107]
noncomputable def n_Wait_ : Nm := [87, 97, 105, 116]
noncomputable def n_World_ : Nm := [87, 111, 114, 108, 100]
noncomputable def n__law_asked_ : Nm := [95, 108, 97, 119, 95, 97, 115, 107, 101, 100]
noncomputable def n__law_built_ : Nm := [95, 108, 97, 119, 95, 98, 117, 105, 108, 116]
noncomputable def n__law_due_ : Nm := [95, 108, 97, 119, 95, 100, 117, 101]
noncomputable def n__law_holder_ : Nm := [95, 108, 97, 119, 95, 104, 111, 108, 100, 101, 114]
noncomputable def n__law_is_so_ : Nm := [95, 108, 97, 119, 95, 105, 115, 95, 115, 111]
noncomputable def n__law_marks_ : Nm := [95, 108, 97, 119, 95, 109, 97, 114, 107, 115]
noncomputable def n__law_number_ : Nm := [95, 108, 97, 119, 95, 110, 117, 109, 98, 101, 114]
noncomputable def n__law_one_ : Nm := [95, 108, 97, 119, 95, 111, 110, 101]
noncomputable def n__law_pool_ : Nm := [95, 108, 97, 119, 95, 112, 111, 111, 108]
noncomputable def n__law_seen_ : Nm := [95, 108, 97, 119, 95, 115, 101, 101, 110]
noncomputable def n__law_sorts_ : Nm := [95, 108, 97, 119, 95, 115, 111, 114, 116, 115]
noncomputable def n__law_take_ : Nm := [95, 108, 97, 119, 95, 116, 97, 107, 101]
noncomputable def n_adding_ : Nm := [97, 100, 100, 105, 110, 103]
noncomputable def n_append_ : Nm := [97, 112, 112, 101, 110, 100]
noncomputable def n_base_ : Nm := [98, 97, 115, 101]
noncomputable def n_base_of_ : Nm := [98, 97, 115, 101, 95, 111, 102]
noncomputable def n_begun_ : Nm := [98, 101, 103, 117, 110]
noncomputable def n_big_ : Nm := [98, 105, 103]
noncomputable def n_bodies_ : Nm := [98, 111, 100, 105, 101, 115]
noncomputable def n_bool_ : Nm := [98, 111, 111, 108]
noncomputable def n_cell_ : Nm := [99, 101, 108, 108]
noncomputable def n_consts_ : Nm := [99, 111, 110, 115, 116, 115]
noncomputable def n_dict_ : Nm := [100, 105, 99, 116]
noncomputable def n_drawn_ : Nm := [100, 114, 97, 119, 110]
noncomputable def n_due_ : Nm := [100, 117, 101]
noncomputable def n_embedded_in_ : Nm := [101, 109, 98, 101, 100, 100, 101, 100, 95, 105, 110]
noncomputable def n_error_ : Nm := [101, 114, 114, 111, 114]
noncomputable def n_extend_ : Nm := [101, 120, 116, 101, 110, 100]
noncomputable def n_f_ : Nm := [102]
noncomputable def n_face_ : Nm := [102, 97, 99, 101]
noncomputable def n_fgh_ : Nm := [102, 103, 104]
noncomputable def n_field_ : Nm := [102, 105, 101, 108, 100]
noncomputable def n_fields_ : Nm := [102, 105, 101, 108, 100, 115]
noncomputable def n_files_ : Nm := [102, 105, 108, 101, 115]
noncomputable def n_find_member_ : Nm := [102, 105, 110, 100, 95, 109, 101, 109, 98, 101, 114]
noncomputable def n_found_ : Nm := [102, 111, 117, 110, 100]
noncomputable def n_func_ : Nm := [102, 117, 110, 99]
noncomputable def n_funcs_ : Nm := [102, 117, 110, 99, 115]
noncomputable def n_g_ : Nm := [103]
noncomputable def n_globals_ : Nm := [103, 108, 111, 98, 97, 108, 115]
noncomputable def n_go_on_ : Nm := [103, 111, 95, 111, 110]
noncomputable def n_h_ : Nm := [104]
noncomputable def n_held_ : Nm := [104, 101, 108, 100]
noncomputable def n_here_ : Nm := [104, 101, 114, 101]
noncomputable def n_holder_ : Nm := [104, 111, 108, 100, 101, 114]
noncomputable def n_holder_pointer_ : Nm := [104, 111, 108, 100, 101, 114, 32, 112, 111, 105, 110, 116, 101, 114]
noncomputable def n_implements_ : Nm := [105, 109, 112, 108, 101, 109, 101, 110, 116, 115]
noncomputable def n_inner_ : Nm := [105, 110, 110, 101, 114]
noncomputable def n_insert_ : Nm := [105, 110, 115, 101, 114, 116]
noncomputable def n_int_ : Nm := [105, 110, 116]
noncomputable def n_interface_ : Nm := [105, 110, 116, 101, 114, 102, 97, 99, 101]
noncomputable def n_is_free_ : Nm := [105, 115, 95, 102, 114, 101, 101]
noncomputable def n_is_in_set_ : Nm := [105, 115, 95, 105, 110, 95, 115, 101, 116]
noncomputable def n_is_led_ : Nm := [105, 115, 95, 108, 101, 100]
noncomputable def n_is_pointer_ : Nm := [105, 115, 95, 112, 111, 105, 110, 116, 101, 114]
noncomputable def n_is_whole_ : Nm := [105, 115, 95, 119, 104, 111, 108, 101]
noncomputable def n_k_ : Nm := [107]
noncomputable def n_key_ : Nm := [107, 101, 121]
noncomputable def n_known_rows_ : Nm := [107, 110, 111, 119, 110, 95, 114, 111, 119, 115]
noncomputable def n_lack_of_ : Nm := [108, 97, 99, 107, 95, 111, 102]
noncomputable def n_late_keys_ : Nm := [108, 97, 116, 101, 95, 107, 101, 121, 115]
noncomputable def n_later_ : Nm := [108, 97, 116, 101, 114]
noncomputable def n_len_ : Nm := [108, 101, 110]
noncomputable def n_levels_ : Nm := [108, 101, 118, 101, 108, 115]
noncomputable def n_locks_ : Nm := [108, 111, 99, 107, 115]
noncomputable def n_m_ : Nm := [109]
noncomputable def n_m_H_ : Nm := [109, 46, 72]
noncomputable def n_m_H__ : Nm := [109, 46, 72, 46]
noncomputable def n_m_N_ : Nm := [109, 46, 78]
noncomputable def n_m_N__ : Nm := [109, 46, 78, 46]
noncomputable def n_m_N_f_ : Nm := [109, 46, 78, 46, 102]
noncomputable def n_m_V_ : Nm := [109, 46, 86]
noncomputable def n_m_W_ : Nm := [109, 46, 87]
noncomputable def n_mark_ : Nm := [109, 97, 114, 107]
noncomputable def n_marks_ : Nm := [109, 97, 114, 107, 115]
noncomputable def n_max_ : Nm := [109, 97, 120]
noncomputable def n_member_ : Nm := [109, 101, 109, 98, 101, 114]
noncomputable def n_member_or_none_ : Nm := [109, 101, 109, 98, 101, 114, 95, 111, 114, 95, 110, 111, 110, 101]
noncomputable def n_members_at_ : Nm := [109, 101, 109, 98, 101, 114, 115, 95, 97, 116]
noncomputable def n_method_ : Nm := [109, 101, 116, 104, 111, 100]
noncomputable def n_method_set_ : Nm := [109, 101, 116, 104, 111, 100, 95, 115, 101, 116]
noncomputable def n_methods_ : Nm := [109, 101, 116, 104, 111, 100, 115]
noncomputable def n_min_ : Nm := [109, 105, 110]
noncomputable def n_missing_ : Nm := [109, 105, 115, 115, 105, 110, 103]
noncomputable def n_mixed_ : Nm := [109, 105, 120, 101, 100]
noncomputable def n_name_ : Nm := [110, 97, 109, 101]
noncomputable def n_named_ : Nm := [110, 97, 109, 101, 100]
noncomputable def n_names_of_methods_ : Nm := [110, 97, 109, 101, 115, 95, 111, 102, 95, 109, 101, 116, 104, 111, 100, 115]
noncomputable def n_none_ : Nm := [110, 111, 110, 101]
noncomputable def n_number_ : Nm := [110, 117, 109, 98, 101, 114]
noncomputable def n_number_pointer_ : Nm := [110, 117, 109, 98, 101, 114, 32, 112, 111, 105, 110, 116, 101, 114]
noncomputable def n_order_ : Nm := [111, 114, 100, 101, 114]
noncomputable def n_other_type_ : Nm := [111, 116, 104, 101, 114, 32, 116, 121, 112, 101]
noncomputable def n_others_ : Nm := [111, 116, 104, 101, 114, 115]
noncomputable def n_over_ : Nm := [111, 118, 101, 114]
noncomputable def n_own_ : Nm := [111, 119, 110]
noncomputable def n_own_methods_ : Nm := [111, 119, 110, 95, 109, 101, 116, 104, 111, 100, 115]
noncomputable def n_package_ : Nm := [112, 97, 99, 107, 97, 103, 101]
noncomputable def n_packages_ : Nm := [112, 97, 99, 107, 97, 103, 101, 115]
noncomputable def n_path_ : Nm := [112, 97, 116, 104]
noncomputable def n_pointer_receiver_ : Nm := [112, 111, 105, 110, 116, 101, 114, 32, 114, 101, 99, 101, 105, 118, 101, 114]
noncomputable def n_ptr_ : Nm := [112, 116, 114]
noncomputable def n_reached_ : Nm := [114, 101, 97, 99, 104, 101, 100]
noncomputable def n_row_ : Nm := [114, 111, 119]
noncomputable def n_rows_ : Nm := [114, 111, 119, 115]
noncomputable def n_runtime_ : Nm := [114, 117, 110, 116, 105, 109, 101]
noncomputable def n_runtime_Error_ : Nm := [114, 117, 110, 116, 105, 109, 101, 46, 69, 114, 114, 111, 114]
noncomputable def n_runtime_Error_Error_ : Nm := [114, 117, 110, 116, 105, 109, 101, 46, 69, 114, 114, 111, 114, 46, 69, 114, 114, 111, 114]
noncomputable def n_satisfied_ : Nm := [115, 97, 116, 105, 115, 102, 105, 101, 100]
noncomputable def n_scopes_ : Nm := [115, 99, 111, 112, 101, 115]
noncomputable def n_script_ : Nm := [115, 99, 114, 105, 112, 116]
noncomputable def n_seen_ : Nm := [115, 101, 101, 110]
noncomputable def n_self_ : Nm := [115, 101, 108, 102]
noncomputable def n_settle_ : Nm := [115, 101, 116, 116, 108, 101]
noncomputable def n_slice_ : Nm := [115, 108, 105, 99, 101]
noncomputable def n_sort_ : Nm := [115, 111, 114, 116]
noncomputable def n_sorted_ : Nm := [115, 111, 114, 116, 101, 100]
noncomputable def n_source_ : Nm := [115, 111, 117, 114, 99, 101]
noncomputable def n_start_type_ : Nm := [115, 116, 97, 114, 116, 95, 116, 121, 112, 101]
noncomputable def n_starts_ : Nm := [115, 116, 97, 114, 116, 115]
noncomputable def n_state_ : Nm := [115, 116, 97, 116, 101]
noncomputable def n_step_ : Nm := [115, 116, 101, 112]
noncomputable def n_steps_ : Nm := [115, 116, 101, 112, 115]
noncomputable def n_string_ : Nm := [115, 116, 114, 105, 110, 103]
noncomputable def n_struct_ : Nm := [115, 116, 114, 117, 99, 116]
noncomputable def n_sync_ : Nm := [115, 121, 110, 99]
noncomputable def n_sync_Mutex_ : Nm := [115, 121, 110, 99, 46, 77, 117, 116, 101, 120]
noncomputable def n_sync_Mutex_Lock_ : Nm := [115, 121, 110, 99, 46, 77, 117, 116, 101, 120, 46, 76, 111, 99, 107]
noncomputable def n_sync_Mutex_Unlock_ : Nm := [115, 121, 110, 99, 46, 77, 117, 116, 101, 120, 46, 85, 110, 108, 111, 99, 107]
noncomputable def n_sync_WaitGroup_ : Nm := [115, 121, 110, 99, 46, 87, 97, 105, 116, 71, 114, 111, 117, 112]
noncomputable def n_sync_WaitGroup_Add_ : Nm := [115, 121, 110, 99, 46, 87, 97, 105, 116, 71, 114, 111, 117, 112, 46, 65, 100, 100]
noncomputable def n_sync_WaitGroup_Done_ : Nm := [115, 121, 110, 99, 46, 87, 97, 105, 116, 71, 114, 111, 117, 112, 46, 68, 111, 110, 101]
noncomputable def n_sync_WaitGroup_Wait_ : Nm := [115, 121, 110, 99, 46, 87, 97, 105, 116, 71, 114, 111, 117, 112, 46, 87, 97, 105, 116]
noncomputable def n_text_ : Nm := [116, 101, 120, 116]
noncomputable def n_things_ : Nm := [116, 104, 105, 110, 103, 115]
noncomputable def n_told_ : Nm := [116, 111, 108, 100]
noncomputable def n_top_ : Nm := [116, 111, 112]
noncomputable def n_tuple_ : Nm := [116, 117, 112, 108, 101]
noncomputable def n_turn_ : Nm := [116, 117, 114, 110]
noncomputable def n_types_ : Nm := [116, 121, 112, 101, 115]
noncomputable def n_underlying_ : Nm := [117, 110, 100, 101, 114, 108, 121, 105, 110, 103]
noncomputable def n_waits_ : Nm := [119, 97, 105, 116, 115]
noncomputable def n_wanted_ : Nm := [119, 97, 110, 116, 101, 100]
noncomputable def n_way_ : Nm := [119, 97, 121]
noncomputable def n_without_pointer_ : Nm := [119, 105, 116, 104, 111, 117, 116, 95, 112, 111, 105, 110, 116, 101, 114]
noncomputable def n_word_ : Nm := [119, 111, 114, 100]
noncomputable def n_world_ : Nm := [119, 111, 114, 108, 100]
noncomputable def b_Reached_init : MSs := (.cons (.asgA (.lv n_self_) n_told_ (.lv n_told_))
  (.cons (.asgA (.lv n_self_) n_steps_ (.lv n_steps_))
  .nil))
noncomputable def p_Reached_init : List Nm := [n_self_, n_told_, n_steps_]
noncomputable def b_without_pointer : MSs := (.cons (.ret (.ife (.cmp .Eq (.sub (.lv n_told_) (.c (.int 0))) (.c (.str n_ptr_))) (.sub (.lv n_told_) (.c (.int 1))) (.lv n_told_)))
  .nil)
noncomputable def p_without_pointer : List Nm := [n_told_]
noncomputable def b_own_methods : MSs := (.cons (.ret (.ife (.cmp .Eq (.sub (.lv n_told_) (.c (.int 0))) (.c (.str n_named_))) (.attr (.sub (.attr (.lv n_world_) n_named_) (.sub (.lv n_told_) (.c (.int 1)))) n_methods_) (.dic [] .nil)))
  .nil)
noncomputable def p_own_methods : List Nm := [n_world_, n_told_]
noncomputable def b_members_at : MSs := (.cons (.asgT [n_told_, n_steps_] (.tup (.cons (.attr (.lv n_reached_) n_told_) (.cons (.attr (.lv n_reached_) n_steps_) .nil))))
  (.cons (.asg n_methods_ (.call (.gl 0) (.cons (.lv n_world_) (.cons (.lv n_told_) .nil))))
  (.cons (.ifS (.cmp .In (.lv n_name_) (.lv n_methods_)) (.cons (.asgT [n_is_pointer_, n_func_, n_key_] (.sub (.lv n_methods_) (.lv n_name_)))
  (.cons (.ret (.lst (.cons (.tup (.cons (.c (.str n_method_)) (.cons (.lv n_steps_) (.cons (.lv n_key_) (.cons (.lv n_is_pointer_) (.cons (.lv n_func_) .nil)))))) .nil)))
  .nil)) .nil)
  (.cons (.asg n_base_ (.mcall (.lv n_world_) n_base_of_ (.cons (.lv n_told_) .nil)))
  (.cons (.ifS (.cmp .Eq (.sub (.lv n_base_) (.c (.int 0))) (.c (.str n_struct_))) (.cons (.forE [n_k_, n_row_] (.sub (.lv n_base_) (.c (.int 1))) (.cons (.ifS (.cmp .Eq (.sub (.lv n_row_) (.c (.int 0))) (.lv n_name_)) (.cons (.ret (.lst (.cons (.tup (.cons (.c (.str n_field_)) (.cons (.bin .Add (.lv n_steps_) (.tup (.cons (.tup (.cons (.lv n_k_) (.cons (.c (.bool false)) .nil))) .nil))) (.cons (.sub (.lv n_row_) (.c (.int 1))) .nil)))) .nil)))
  .nil) .nil)
  .nil))
  .nil) .nil)
  (.cons (.ifS (.cmp .Eq (.sub (.lv n_base_) (.c (.int 0))) (.c (.str n_interface_))) (.cons (.ret (.comp (.tup (.cons (.c (.str n_face_)) (.cons (.lv n_steps_) (.cons (.lv n_name_) (.cons (.lv n_func_) .nil))))) [n_own_, n_func_] (.sub (.lv n_base_) (.c (.int 1))) (.cons (.cmp .Eq (.lv n_own_) (.lv n_name_)) .nil)))
  .nil) .nil)
  (.cons (.ret (.lst .nil))
  .nil)))))))
noncomputable def p_members_at : List Nm := [n_world_, n_reached_, n_name_]
noncomputable def b_embedded_in : MSs := (.cons (.asgT [n_base_, n_found_] (.tup (.cons (.mcall (.lv n_world_) n_base_of_ (.cons (.attr (.lv n_reached_) n_told_) .nil)) (.cons (.lst .nil) .nil))))
  (.cons (.ifS (.cmp .Eq (.sub (.lv n_base_) (.c (.int 0))) (.c (.str n_struct_))) (.cons (.forE [n_k_, n_row_] (.sub (.lv n_base_) (.c (.int 1))) (.cons (.ifS (.sub (.lv n_row_) (.c (.int 2))) (.cons (.asg n_is_pointer_ (.cmp .Eq (.sub (.sub (.lv n_row_) (.c (.int 1))) (.c (.int 0))) (.c (.str n_ptr_))))
  (.cons (.expr (.mcall (.lv n_found_) n_append_ (.cons (.call (.gl 1) (.cons (.call (.gl 2) (.cons (.sub (.lv n_row_) (.c (.int 1))) .nil)) (.cons (.bin .Add (.attr (.lv n_reached_) n_steps_) (.tup (.cons (.tup (.cons (.lv n_k_) (.cons (.lv n_is_pointer_) .nil))) .nil))) .nil))) .nil)))
  .nil)) .nil)
  .nil))
  .nil) .nil)
  (.cons (.ret (.lv n_found_))
  .nil)))
noncomputable def p_embedded_in : List Nm := [n_world_, n_reached_]
noncomputable def b_Levels_init : MSs := (.cons (.asgA (.lv n_self_) n_world_ (.lv n_world_))
  (.cons (.asgA (.lv n_self_) n_here_ (.lst (.cons (.call (.gl 1) (.cons (.lv n_told_) (.cons (.tup .nil) .nil))) .nil)))
  (.cons (.asgA (.lv n_self_) n_seen_ (.dic [] .nil))
  .nil)))
noncomputable def p_Levels_init : List Nm := [n_self_, n_world_, n_told_]
noncomputable def b_Levels_go_on : MSs := (.cons (.forS [n_reached_] (.attr (.lv n_self_) n_here_) (.cons (.ifS (.cmp .Eq (.sub (.attr (.lv n_reached_) n_told_) (.c (.int 0))) (.c (.str n_named_))) (.cons (.asgS (.attr (.lv n_self_) n_seen_) (.sub (.attr (.lv n_reached_) n_told_) (.c (.int 1))) (.c (.bool true)))
  .nil) .nil)
  .nil))
  (.cons (.asg n_later_ (.lst .nil))
  (.cons (.forS [n_reached_] (.attr (.lv n_self_) n_here_) (.cons (.forS [n_inner_] (.call (.gl 3) (.cons (.attr (.lv n_self_) n_world_) (.cons (.lv n_reached_) .nil))) (.cons (.ifS (.or (.cons (.cmp .NotEq (.sub (.attr (.lv n_inner_) n_told_) (.c (.int 0))) (.c (.str n_named_))) (.cons (.cmp .NotIn (.sub (.attr (.lv n_inner_) n_told_) (.c (.int 1))) (.attr (.lv n_self_) n_seen_)) .nil))) (.cons (.expr (.mcall (.lv n_later_) n_append_ (.cons (.lv n_inner_) .nil)))
  .nil) .nil)
  .nil))
  .nil))
  (.cons (.asgA (.lv n_self_) n_here_ (.lv n_later_))
  .nil))))
noncomputable def p_Levels_go_on : List Nm := [n_self_]
noncomputable def b_start_type : MSs := (.cons (.ifS (.cmp .Eq (.sub (.lv n_told_) (.c (.int 0))) (.c (.str n_ptr_))) (.cons (.asg n_inner_ (.sub (.lv n_told_) (.c (.int 1))))
  (.cons (.ret (.ife (.cmp .In (.sub (.mcall (.lv n_world_) n_base_of_ (.cons (.lv n_inner_) .nil)) (.c (.int 0))) (.tup (.cons (.c (.str n_ptr_)) (.cons (.c (.str n_interface_)) .nil)))) (.c .none) (.tup (.cons (.lv n_inner_) (.cons (.c (.bool false)) .nil)))))
  .nil)) .nil)
  (.cons (.asg n_base_ (.ife (.cmp .Eq (.sub (.lv n_told_) (.c (.int 0))) (.c (.str n_named_))) (.mcall (.lv n_world_) n_base_of_ (.cons (.lv n_told_) .nil)) (.lv n_told_)))
  (.cons (.ifS (.and (.cons (.cmp .Eq (.sub (.lv n_told_) (.c (.int 0))) (.c (.str n_named_))) (.cons (.cmp .Eq (.sub (.lv n_base_) (.c (.int 0))) (.c (.str n_ptr_))) .nil))) (.cons (.ret (.tup (.cons (.sub (.lv n_base_) (.c (.int 1))) (.cons (.c (.bool true)) .nil))))
  .nil) .nil)
  (.cons (.ret (.tup (.cons (.lv n_told_) (.cons (.c (.bool false)) .nil))))
  .nil))))
noncomputable def p_start_type : List Nm := [n_world_, n_told_]
noncomputable def b_find_member : MSs := (.cons (.asg n_begun_ (.call (.gl 7) (.cons (.lv n_world_) (.cons (.lv n_told_) .nil))))
  (.cons (.ifS (.cmp .Is (.lv n_begun_) (.c .none)) (.cons (.ret (.c .none))
  .nil) .nil)
  (.cons (.asg n_levels_ (.call (.gl 6) (.cons (.lv n_world_) (.cons (.sub (.lv n_begun_) (.c (.int 0))) .nil))))
  (.cons (.whileS (.cmp .NotEq (.attr (.lv n_levels_) n_here_) (.lst .nil)) (.cons (.asg n_found_ (.lst .nil))
  (.cons (.forS [n_reached_] (.attr (.lv n_levels_) n_here_) (.cons (.expr (.mcall (.lv n_found_) n_extend_ (.cons (.call (.gl 5) (.cons (.lv n_world_) (.cons (.lv n_reached_) (.cons (.lv n_name_) .nil)))) .nil)))
  .nil))
  (.cons (.ifS (.cmp .Gt (.call (.gl 4) (.cons (.lv n_found_) .nil)) (.c (.int 1))) (.cons .fail
  .nil) .nil)
  (.cons (.ifS (.cmp .NotEq (.lv n_found_) (.lst .nil)) (.cons (.ret (.ife (.and (.cons (.sub (.lv n_begun_) (.c (.int 1))) (.cons (.cmp .NotEq (.sub (.sub (.lv n_found_) (.c (.int 0))) (.c (.int 0))) (.c (.str n_field_))) .nil))) (.c .none) (.sub (.lv n_found_) (.c (.int 0)))))
  .nil) .nil)
  (.cons (.expr (.mcall (.lv n_levels_) n_go_on_ .nil))
  .nil))))))
  (.cons (.ret (.c .none))
  .nil)))))
noncomputable def p_find_member : List Nm := [n_world_, n_told_, n_name_]
noncomputable def b_names_of_methods : MSs := (.cons (.asgT [n_levels_, n_found_] (.tup (.cons (.call (.gl 6) (.cons (.lv n_world_) (.cons (.lv n_told_) .nil))) (.cons (.dic [] .nil) .nil))))
  (.cons (.whileS (.cmp .NotEq (.attr (.lv n_levels_) n_here_) (.lst .nil)) (.cons (.forS [n_reached_] (.attr (.lv n_levels_) n_here_) (.cons (.asg n_base_ (.mcall (.lv n_world_) n_base_of_ (.cons (.attr (.lv n_reached_) n_told_) .nil)))
  (.cons (.forS [n_name_] (.call (.gl 0) (.cons (.lv n_world_) (.cons (.attr (.lv n_reached_) n_told_) .nil))) (.cons (.asgS (.lv n_found_) (.lv n_name_) (.c (.bool true)))
  .nil))
  (.cons (.forS [n_name_, n_func_] (.ife (.cmp .Eq (.sub (.lv n_base_) (.c (.int 0))) (.c (.str n_interface_))) (.sub (.lv n_base_) (.c (.int 1))) (.tup .nil)) (.cons (.asgS (.lv n_found_) (.lv n_name_) (.c (.bool true)))
  .nil))
  .nil))))
  (.cons (.expr (.mcall (.lv n_levels_) n_go_on_ .nil))
  .nil)))
  (.cons (.ret (.call (.gl 8) (.cons (.lv n_found_) .nil)))
  .nil)))
noncomputable def p_names_of_methods : List Nm := [n_world_, n_told_]
noncomputable def b_member_or_none : MSs := (.cons (.tryS (.cons (.ret (.call (.gl 9) (.cons (.lv n_world_) (.cons (.lv n_told_) (.cons (.lv n_name_) .nil)))))
  .nil))
  .nil)
noncomputable def p_member_or_none : List Nm := [n_world_, n_told_, n_name_]
noncomputable def b_is_in_set : MSs := (.cons (.ifS (.or (.cons (.cmp .Eq (.sub (.lv n_member_) (.c (.int 0))) (.c (.str n_face_))) (.cons (.not (.sub (.lv n_member_) (.c (.int 3)))) .nil))) (.cons (.ret (.c (.bool true)))
  .nil) .nil)
  (.cons (.ret (.or (.cons (.cmp .Eq (.sub (.lv n_told_) (.c (.int 0))) (.c (.str n_ptr_))) (.cons (.cmp .NotEq (.comp (.lv n_step_) [n_step_] (.sub (.lv n_member_) (.c (.int 1))) (.cons (.sub (.lv n_step_) (.c (.int 1))) .nil)) (.lst .nil)) .nil))))
  .nil))
noncomputable def p_is_in_set : List Nm := [n_told_, n_member_]
noncomputable def b_method_set : MSs := (.cons (.asgT [n_begun_, n_found_] (.tup (.cons (.call (.gl 7) (.cons (.lv n_world_) (.cons (.lv n_told_) .nil))) (.cons (.dic [] .nil) .nil))))
  (.cons (.ifS (.or (.cons (.cmp .Is (.lv n_begun_) (.c .none)) (.cons (.sub (.lv n_begun_) (.c (.int 1))) .nil))) (.cons (.ret (.lv n_found_))
  .nil) .nil)
  (.cons (.forS [n_name_] (.call (.gl 10) (.cons (.lv n_world_) (.cons (.sub (.lv n_begun_) (.c (.int 0))) .nil))) (.cons (.asg n_member_ (.call (.gl 12) (.cons (.lv n_world_) (.cons (.lv n_told_) (.cons (.lv n_name_) .nil)))))
  (.cons (.ifS (.and (.cons (.cmp .IsNot (.lv n_member_) (.c .none)) (.cons (.cmp .NotEq (.sub (.lv n_member_) (.c (.int 0))) (.c (.str n_field_))) (.cons (.call (.gl 11) (.cons (.lv n_told_) (.cons (.lv n_member_) .nil))) .nil)))) (.cons (.asg n_key_ (.ife (.cmp .Eq (.sub (.lv n_member_) (.c (.int 0))) (.c (.str n_method_))) (.sub (.lv n_member_) (.c (.int 2))) (.c .none)))
  (.cons (.asgS (.lv n_found_) (.lv n_name_) (.tup (.cons (.sub (.lv n_member_) (.c (.int 1))) (.cons (.lv n_key_) (.cons (.sub (.lv n_member_) (.neg (.c (.int 1)))) .nil)))))
  .nil)) .nil)
  .nil)))
  (.cons (.ret (.lv n_found_))
  .nil))))
noncomputable def p_method_set : List Nm := [n_world_, n_told_]
noncomputable def b_lack_of : MSs := (.cons (.ifS (.and (.cons (.cmp .NotEq (.sub (.lv n_told_) (.c (.int 0))) (.c (.str n_ptr_))) (.cons (.cmp .NotEq (.sub (.mcall (.lv n_world_) n_base_of_ (.cons (.lv n_told_) .nil)) (.c (.int 0))) (.c (.str n_interface_))) .nil))) (.cons (.asg n_others_ (.call (.gl 13) (.cons (.lv n_world_) (.cons (.tup (.cons (.c (.str n_ptr_)) (.cons (.lv n_told_) .nil))) .nil))))
  (.cons (.ifS (.and (.cons (.cmp .In (.lv n_name_) (.lv n_others_)) (.cons (.cmp .Eq (.sub (.sub (.lv n_others_) (.lv n_name_)) (.c (.int 2))) (.lv n_func_)) .nil))) (.cons (.ret (.c (.str n_pointer_receiver_)))
  .nil) .nil)
  .nil)) .nil)
  (.cons (.ret (.c (.str n_missing_)))
  .nil))
noncomputable def p_lack_of : List Nm := [n_world_, n_told_, n_name_, n_func_]
noncomputable def b_implements : MSs := (.cons (.asg n_methods_ (.call (.gl 13) (.cons (.lv n_world_) (.cons (.lv n_told_) .nil))))
  (.cons (.forS [n_name_, n_func_] (.sub (.mcall (.lv n_world_) n_base_of_ (.cons (.lv n_wanted_) .nil)) (.c (.int 1))) (.cons (.ifS (.cmp .NotIn (.lv n_name_) (.lv n_methods_)) (.cons (.ret (.tup (.cons (.lv n_name_) (.cons (.call (.gl 14) (.cons (.lv n_world_) (.cons (.lv n_told_) (.cons (.lv n_name_) (.cons (.lv n_func_) .nil))))) .nil))))
  .nil) .nil)
  (.cons (.ifS (.cmp .NotEq (.sub (.sub (.lv n_methods_) (.lv n_name_)) (.c (.int 2))) (.lv n_func_)) (.cons (.ret (.tup (.cons (.lv n_name_) (.cons (.c (.str n_other_type_)) .nil))))
  .nil) .nil)
  .nil)))
  (.cons (.ret (.c .none))
  .nil)))
noncomputable def p_implements : List Nm := [n_world_, n_told_, n_wanted_]
noncomputable def b_satisfied : MSs := (.cons (.ret (.cmp .Is (.call (.gl 15) (.cons (.lv n_world_) (.cons (.lv n_told_) (.cons (.lv n_wanted_) .nil)))) (.c .none)))
  .nil)
noncomputable def p_satisfied : List Nm := [n_world_, n_told_, n_wanted_]
noncomputable def b_NamedRow_init : MSs := (.cons (.asgA (.lv n_self_) n_path_ (.lv n_path_))
  (.cons (.asgA (.lv n_self_) n_package_ (.lv n_package_))
  (.cons (.asgA (.lv n_self_) n_underlying_ (.lv n_underlying_))
  (.cons (.asgA (.lv n_self_) n_methods_ (.lv n_methods_))
  .nil))))
noncomputable def p_NamedRow_init : List Nm := [n_self_, n_path_, n_package_, n_underlying_, n_methods_]
noncomputable def b_known_rows : MSs := (.cons (.asg n_text_ (.tup (.cons (.c (.str n_func_)) (.cons (.tup .nil) (.cons (.tup (.cons (.tup (.cons (.c (.str n_string_)) .nil)) .nil)) (.cons (.c (.bool false)) .nil))))))
  (.cons (.asg n_adding_ (.tup (.cons (.c (.str n_func_)) (.cons (.tup (.cons (.tup (.cons (.c (.str n_int_)) (.cons (.c (.str n_int_)) .nil))) .nil)) (.cons (.tup .nil) (.cons (.c (.bool false)) .nil))))))
  (.cons (.asg n_held_ (.tup (.cons (.c (.str n_struct_)) (.cons (.tup (.cons (.tup (.cons (.c (.str n_state_)) (.cons (.tup (.cons (.c (.str n_int_)) (.cons (.c (.str n_int_)) .nil))) (.cons (.c (.bool false)) .nil)))) .nil)) .nil))))
  (.cons (.asg n_told_ (.dic [n_Error_] (.cons (.tup (.cons (.c (.bool false)) (.cons (.lv n_text_) (.cons (.c (.str n_runtime_Error_Error_)) .nil)))) .nil)))
  (.cons (.asg n_locks_ (.dic [n_Lock_, n_Unlock_] (.cons (.tup (.cons (.c (.bool true)) (.cons (.gl 17) (.cons (.c (.str n_sync_Mutex_Lock_)) .nil)))) (.cons (.tup (.cons (.c (.bool true)) (.cons (.gl 17) (.cons (.c (.str n_sync_Mutex_Unlock_)) .nil)))) .nil))))
  (.cons (.asg n_waits_ (.dic [n_Add_, n_Done_, n_Wait_] (.cons (.tup (.cons (.c (.bool true)) (.cons (.lv n_adding_) (.cons (.c (.str n_sync_WaitGroup_Add_)) .nil)))) (.cons (.tup (.cons (.c (.bool true)) (.cons (.gl 17) (.cons (.c (.str n_sync_WaitGroup_Done_)) .nil)))) (.cons (.tup (.cons (.c (.bool true)) (.cons (.gl 17) (.cons (.c (.str n_sync_WaitGroup_Wait_)) .nil)))) .nil)))))
  (.cons (.ret (.dic [n_error_, n_runtime_Error_, n_sync_Mutex_, n_sync_WaitGroup_] (.cons (.call (.gl 16) (.cons (.c (.str n_error_)) (.cons (.c (.str n__)) (.cons (.tup (.cons (.c (.str n_interface_)) (.cons (.tup (.cons (.tup (.cons (.c (.str n_Error_)) (.cons (.lv n_text_) .nil))) .nil)) .nil))) (.cons (.dic [] .nil) .nil))))) (.cons (.call (.gl 16) (.cons (.c (.str n_runtime_Error_)) (.cons (.c (.str n_runtime_)) (.cons (.tup (.cons (.c (.str n_string_)) .nil)) (.cons (.lv n_told_) .nil))))) (.cons (.call (.gl 16) (.cons (.c (.str n_sync_Mutex_)) (.cons (.c (.str n_sync_)) (.cons (.lv n_held_) (.cons (.lv n_locks_) .nil))))) (.cons (.call (.gl 16) (.cons (.c (.str n_sync_WaitGroup_)) (.cons (.c (.str n_sync_)) (.cons (.lv n_held_) (.cons (.lv n_waits_) .nil))))) .nil))))))
  .nil)))))))
noncomputable def p_known_rows : List Nm := []
noncomputable def b_World_init : MSs := (.cons (.asgA (.lv n_self_) n_packages_ (.lv n_packages_))
  (.cons (.asgA (.lv n_self_) n_named_ (.call (.gl 18) .nil))
  (.cons (.asgA (.lv n_self_) n_globals_ (.dic [] .nil))
  (.cons (.asgA (.lv n_self_) n_consts_ (.dic [] .nil))
  (.cons (.asgA (.lv n_self_) n_funcs_ (.dic [] .nil))
  (.cons (.asgA (.lv n_self_) n_bodies_ (.dic [] .nil))
  (.cons (.asgA (.lv n_self_) n_files_ (.dic [] .nil))
  (.cons (.asgA (.lv n_self_) n_scopes_ (.dic [] .nil))
  (.cons (.asgA (.lv n_self_) n_order_ (.lst .nil))
  (.cons (.asgA (.lv n_self_) n_starts_ (.lst .nil))
  (.cons (.asgA (.lv n_self_) n_settle_ (.c .none))
  (.cons (.asgA (.lv n_self_) n_late_keys_ (.lst .nil))
  (.cons (.asgA (.lv n_self_) n_is_whole_ (.c (.bool true)))
  .nil)))))))))))))
noncomputable def p_World_init : List Nm := [n_self_, n_packages_]
noncomputable def b_World_base_of : MSs := (.cons (.whileS (.cmp .Eq (.sub (.lv n_told_) (.c (.int 0))) (.c (.str n_named_))) (.cons (.ifS (.cmp .NotIn (.sub (.lv n_told_) (.c (.int 1))) (.attr (.lv n_self_) n_named_)) (.cons .fail
  .nil) .nil)
  (.cons (.asg n_row_ (.sub (.attr (.lv n_self_) n_named_) (.sub (.lv n_told_) (.c (.int 1)))))
  (.cons (.ifS (.cmp .Is (.attr (.lv n_row_) n_underlying_) (.c .none)) (.cons (.ifS (.cmp .Is (.attr (.lv n_self_) n_settle_) (.c .none)) (.cons .fail
  .nil) .nil)
  (.cons (.expr (.mcall (.lv n_self_) n_settle_ (.cons (.sub (.lv n_told_) (.c (.int 1))) .nil)))
  .nil)) .nil)
  (.cons (.asg n_told_ (.attr (.lv n_row_) n_underlying_))
  .nil)))))
  (.cons (.ret (.lv n_told_))
  .nil))
noncomputable def p_World_base_of : List Nm := [n_self_, n_told_]
noncomputable def b__law_pool : MSs := (.cons (.asg n_cell_ (.ife (.cmp .Lt (.lv n_k_) (.call (.gl 4) (.cons (.lv n_script_) .nil))) (.sub (.lv n_script_) (.lv n_k_)) (.c (.int 0))))
  (.cons (.asg n_big_ (.call (.gl 20) (.cons (.call (.gl 19) (.cons (.lv n_cell_) .nil)) (.cons (.call (.gl 19) (.cons (.bin .Sub (.neg (.c (.int 1))) (.lv n_cell_)) .nil)) .nil))))
  (.cons (.asg n_mixed_ (.bin .Mod (.call (.gl 19) (.cons (.bin .Mult (.bin .Add (.bin .Add (.bin .Add (.bin .Mod (.call (.gl 19) (.cons (.lv n_big_) .nil)) (.c (.int 2147483629))) (.bin .Mult (.bin .Mult (.c (.int 7919)) (.lv n_k_)) (.lv n_k_))) (.bin .Mult (.c (.int 31)) (.lv n_k_))) (.c (.int 17))) (.c (.int 48271))) .nil)) (.c (.int 2147483647))))
  (.cons (.ret (.lst (.cons (.bin .Mult (.lv n_big_) (.call (.gl 19) (.cons (.cmp .GtE (.lv n_big_) (.bin .Pow (.c (.int 10)) (.c (.int 18)))) .nil))) (.cons (.lv n_mixed_) .nil))))
  .nil))))
noncomputable def p__law_pool : List Nm := [n_script_, n_k_]
noncomputable def b__law_take : MSs := (.cons (.ifS (.cmp .Gt (.sub (.lv n_source_) (.c (.int 0))) (.c (.int 0))) (.cons (.asg n_drawn_ (.bin .Mod (.call (.gl 19) (.cons (.sub (.lv n_source_) (.c (.int 0))) .nil)) (.lv n_top_)))
  (.cons (.asgS (.lv n_source_) (.c (.int 0)) (.bin .FloorDiv (.sub (.lv n_source_) (.c (.int 0))) (.lv n_top_)))
  (.cons (.ret (.lv n_drawn_))
  .nil))) .nil)
  (.cons (.asgS (.lv n_source_) (.c (.int 1)) (.bin .Mod (.call (.gl 19) (.cons (.bin .Add (.bin .Mult (.sub (.lv n_source_) (.c (.int 1))) (.c (.int 39373))) (.c (.int 7))) .nil)) (.c (.int 2147483647))))
  (.cons (.ret (.bin .Mod (.call (.gl 19) (.cons (.bin .FloorDiv (.bin .Mod (.call (.gl 19) (.cons (.bin .Mult (.sub (.lv n_source_) (.c (.int 1))) (.sub (.lv n_source_) (.c (.int 1)))) .nil)) (.c (.int 2147483629))) (.c (.int 32))) .nil)) (.lv n_top_)))
  .nil)))
noncomputable def p__law_take : List Nm := [n_source_, n_top_]
noncomputable def b__law_one : MSs := (.cons (.ret (.sub (.lv n_things_) (.call (.gl 21) (.cons (.lv n_source_) (.cons (.call (.gl 4) (.cons (.lv n_things_) .nil)) .nil)))))
  .nil)
noncomputable def p__law_one : List Nm := [n_source_, n_things_]
noncomputable def b__law_sorts : MSs := (.cons (.ret (.lst (.cons (.tup (.cons (.c (.str n_func_)) (.cons (.tup .nil) (.cons (.tup .nil) (.cons (.c (.bool false)) .nil))))) (.cons (.tup (.cons (.c (.str n_func_)) (.cons (.tup (.cons (.tup (.cons (.c (.str n_bool_)) .nil)) .nil)) (.cons (.tup .nil) (.cons (.c (.bool false)) .nil))))) .nil))))
  .nil)
noncomputable def p__law_sorts : List Nm := []
noncomputable def b__law_marks : MSs := (.cons (.asg n_found_ (.dic [] .nil))
  (.cons (.forS [n_name_] (.c (.str n_fgh_)) (.cons (.asg n_way_ (.call (.gl 21) (.cons (.lv n_source_) (.cons (.c (.int 5)) .nil))))
  (.cons (.asgS (.lv n_found_) (.lv n_name_) (.ife (.cmp .Eq (.lv n_way_) (.c (.int 0))) (.c .none) (.tup (.cons (.cmp .Gt (.lv n_way_) (.c (.int 2))) (.cons (.call (.gl 22) (.cons (.lv n_source_) (.cons (.lst (.cons (.c (.int 0)) (.cons (.c (.int 0)) (.cons (.c (.int 1)) .nil)))) .nil))) .nil)))))
  .nil)))
  (.cons (.ret (.lv n_found_))
  .nil)))
noncomputable def p__law_marks : List Nm := [n_source_]
noncomputable def b__law_built : MSs := (.cons (.asgT [n_world_, n_over_] (.tup (.cons (.call (.gl 27) .nil) (.cons (.c .none) .nil))))
  (.cons (.asg n_rows_ (.call (.gl 26) (.cons (.comp (.tup (.cons (.lv n_name_) (.cons (.tup (.cons (.sub (.sub (.lv n_marks_) (.lv n_name_)) (.c (.int 0))) (.cons (.sub (.call (.gl 24) .nil) (.sub (.sub (.lv n_marks_) (.lv n_name_)) (.c (.int 1)))) (.cons (.bin .Add (.c (.str n_m_N__)) (.lv n_name_)) .nil)))) .nil))) [n_name_] (.lv n_marks_) (.cons (.sub (.lv n_marks_) (.lv n_name_)) .nil)) .nil)))
  (.cons (.asgS (.attr (.lv n_world_) n_named_) (.c (.str n_m_N_)) (.call (.gl 16) (.cons (.c (.str n_m_N_)) (.cons (.c (.str n_m_)) (.cons (.tup (.cons (.c (.str n_int_)) (.cons (.c (.str n_int_)) .nil))) (.cons (.lv n_rows_) .nil))))))
  (.cons (.asgT [n_fields_, n_methods_] (.tup (.cons (.lst (.cons (.tup (.cons (.c (.str n_N_)) (.cons (.ife (.lv n_is_led_) (.tup (.cons (.c (.str n_ptr_)) (.cons (.gl 25) .nil))) (.gl 25)) (.cons (.c (.bool true)) .nil)))) .nil)) (.cons (.dic [] .nil) .nil))))
  (.cons (.asg n_way_ (.call (.gl 21) (.cons (.lv n_source_) (.cons (.c (.int 4)) .nil))))
  (.cons (.ifS (.cmp .Lt (.lv n_way_) (.c (.int 2))) (.cons (.asg n_over_ (.tup (.cons (.call (.gl 22) (.cons (.lv n_source_) (.cons (.c (.str n_fgh_)) .nil))) (.cons (.ife (.cmp .Eq (.lv n_way_) (.c (.int 0))) (.c .none) (.tup (.cons (.cmp .Eq (.call (.gl 21) (.cons (.lv n_source_) (.cons (.c (.int 2)) .nil))) (.c (.int 0))) (.cons (.call (.gl 21) (.cons (.lv n_source_) (.cons (.c (.int 2)) .nil))) .nil)))) .nil))))
  (.cons (.ifS (.cmp .Is (.sub (.lv n_over_) (.c (.int 1))) (.c .none)) (.cons (.expr (.mcall (.lv n_fields_) n_insert_ (.cons (.call (.gl 21) (.cons (.lv n_source_) (.cons (.c (.int 2)) .nil))) (.cons (.tup (.cons (.sub (.lv n_over_) (.c (.int 0))) (.cons (.tup (.cons (.c (.str n_string_)) .nil)) (.cons (.c (.bool false)) .nil)))) .nil))))
  .nil) (.cons (.asgS (.lv n_methods_) (.sub (.lv n_over_) (.c (.int 0))) (.tup (.cons (.sub (.sub (.lv n_over_) (.c (.int 1))) (.c (.int 0))) (.cons (.sub (.call (.gl 24) .nil) (.sub (.sub (.lv n_over_) (.c (.int 1))) (.c (.int 1)))) (.cons (.bin .Add (.c (.str n_m_H__)) (.sub (.lv n_over_) (.c (.int 0)))) .nil)))))
  .nil))
  .nil)) .nil)
  (.cons (.asgS (.attr (.lv n_world_) n_named_) (.c (.str n_m_H_)) (.call (.gl 16) (.cons (.c (.str n_m_H_)) (.cons (.c (.str n_m_)) (.cons (.tup (.cons (.c (.str n_struct_)) (.cons (.call (.gl 23) (.cons (.lv n_fields_) .nil)) .nil))) (.cons (.lv n_methods_) .nil))))))
  (.cons (.ret (.tup (.cons (.lv n_world_) (.cons (.lv n_over_) .nil))))
  .nil))))))))
noncomputable def p__law_built : List Nm := [n_source_, n_marks_, n_is_led_]
noncomputable def b__law_seen : MSs := (.cons (.asg n_found_ (.dic [] .nil))
  (.cons (.forS [n_name_] (.c (.str n_fgh_)) (.cons (.asgT [n_mark_, n_is_free_] (.tup (.cons (.sub (.lv n_marks_) (.lv n_name_)) (.cons (.cmp .In (.lv n_word_) (.lst (.cons (.c (.str n_number_pointer_)) (.cons (.c (.str n_holder_pointer_)) .nil)))) .nil))))
  (.cons (.ifS (.cmp .Eq (.sl (.lv n_word_) 6) (.c (.str n_holder_))) (.cons (.ifS (.and (.cons (.cmp .IsNot (.lv n_over_) (.c .none)) (.cons (.cmp .Eq (.sub (.lv n_over_) (.c (.int 0))) (.lv n_name_)) .nil))) (.cons (.asg n_mark_ (.sub (.lv n_over_) (.c (.int 1))))
  .nil) (.cons (.asg n_is_free_ (.or (.cons (.lv n_is_free_) (.cons (.lv n_is_led_) .nil))))
  .nil))
  .nil) .nil)
  (.cons (.ifS (.cmp .Is (.lv n_mark_) (.c .none)) (.cons (.asgS (.lv n_found_) (.lv n_name_) (.c .none))
  .nil) (.cons (.asgS (.lv n_found_) (.lv n_name_) (.tup (.cons (.sub (.lv n_mark_) (.c (.int 1))) (.cons (.and (.cons (.sub (.lv n_mark_) (.c (.int 0))) (.cons (.not (.lv n_is_free_)) .nil))) .nil))))
  .nil))
  .nil))))
  (.cons (.ret (.lv n_found_))
  .nil)))
noncomputable def p__law_seen : List Nm := [n_marks_, n_over_, n_is_led_, n_word_]
noncomputable def b__law_due : MSs := (.cons (.forS [n_name_, n_sort_] (.lv n_rows_) (.cons (.ifS (.or (.cons (.cmp .Is (.sub (.lv n_seen_) (.lv n_name_)) (.c .none)) (.cons (.cmp .Eq (.sub (.lv n_seen_) (.lv n_name_)) (.tup (.cons (.bin .Sub (.c (.int 1)) (.lv n_sort_)) (.cons (.c (.bool true)) .nil)))) .nil))) (.cons (.ret (.tup (.cons (.lv n_name_) (.cons (.c (.str n_missing_)) .nil))))
  .nil) .nil)
  (.cons (.ifS (.cmp .Eq (.sub (.lv n_seen_) (.lv n_name_)) (.tup (.cons (.lv n_sort_) (.cons (.c (.bool true)) .nil)))) (.cons (.ret (.tup (.cons (.lv n_name_) (.cons (.c (.str n_pointer_receiver_)) .nil))))
  .nil) .nil)
  (.cons (.ifS (.cmp .NotEq (.sub (.sub (.lv n_seen_) (.lv n_name_)) (.c (.int 0))) (.lv n_sort_)) (.cons (.ret (.tup (.cons (.lv n_name_) (.cons (.c (.str n_other_type_)) .nil))))
  .nil) .nil)
  .nil))))
  (.cons (.ret (.c .none))
  .nil))
noncomputable def p__law_due : List Nm := [n_seen_, n_rows_]
noncomputable def b__law_asked : MSs := (.cons (.asg n_rows_ (.comp (.tup (.cons (.lv n_name_) (.cons (.call (.gl 22) (.cons (.lv n_source_) (.cons (.lst (.cons (.c (.int 0)) (.cons (.c (.int 0)) (.cons (.c (.int 1)) .nil)))) .nil))) .nil))) [n_name_] (.c (.str n_fgh_)) (.cons (.cmp .Eq (.call (.gl 21) (.cons (.lv n_source_) (.cons (.c (.int 2)) .nil))) (.c (.int 0))) .nil)))
  (.cons (.asg n_wanted_ (.tup (.cons (.c (.str n_interface_)) (.cons (.call (.gl 23) (.cons (.comp (.tup (.cons (.lv n_name_) (.cons (.sub (.call (.gl 24) .nil) (.lv n_sort_)) .nil))) [n_name_, n_sort_] (.lv n_rows_) .nil) .nil)) .nil))))
  (.cons (.ifS (.cmp .Eq (.call (.gl 21) (.cons (.lv n_source_) (.cons (.c (.int 2)) .nil))) (.c (.int 0))) (.cons (.ret (.tup (.cons (.lv n_wanted_) (.cons (.lv n_rows_) .nil))))
  .nil) .nil)
  (.cons (.asgS (.attr (.lv n_world_) n_named_) (.c (.str n_m_W_)) (.call (.gl 16) (.cons (.c (.str n_m_W_)) (.cons (.c (.str n_m_)) (.cons (.lv n_wanted_) (.cons (.dic [] .nil) .nil))))))
  (.cons (.ret (.tup (.cons (.tup (.cons (.c (.str n_named_)) (.cons (.c (.str n_m_W_)) .nil))) (.cons (.lv n_rows_) .nil))))
  .nil)))))
noncomputable def p__law_asked : List Nm := [n_source_, n_world_]
noncomputable def b__law_is_so : MSs := (.cons (.ret (.and (.cons (.cmp .Eq (.call (.gl 15) (.cons (.lv n_world_) (.cons (.lv n_T_) (.cons (.lv n_wanted_) .nil)))) (.lv n_due_)) (.cons (.cmp .Eq (.call (.gl 28) (.cons (.lv n_world_) (.cons (.lv n_T_) (.cons (.lv n_wanted_) .nil)))) (.cmp .Is (.lv n_due_) (.c .none))) .nil))))
  .nil)
noncomputable def p__law_is_so : List Nm := [n_world_, n_T_, n_wanted_, n_due_]
noncomputable def b_law : MSs := (.cons (.forR n_k_ (.call (.gl 20) (.cons (.c (.int 1)) (.cons (.call (.gl 30) (.cons (.call (.gl 4) (.cons (.lv n_script_) .nil)) (.cons (.c (.int 2)) .nil))) .nil))) (.cons (.asg n_source_ (.call (.gl 37) (.cons (.lv n_script_) (.cons (.lv n_k_) .nil))))
  (.cons (.asgT [n_marks_, n_is_led_] (.tup (.cons (.call (.gl 36) (.cons (.lv n_source_) .nil)) (.cons (.cmp .Eq (.call (.gl 21) (.cons (.lv n_source_) (.cons (.c (.int 2)) .nil))) (.c (.int 0))) .nil))))
  (.cons (.asgT [n_world_, n_over_] (.call (.gl 35) (.cons (.lv n_source_) (.cons (.lv n_marks_) (.cons (.lv n_is_led_) .nil)))))
  (.cons (.asg n_types_ (.dic [n_number_, n_number_pointer_, n_holder_] (.cons (.gl 25) (.cons (.tup (.cons (.c (.str n_ptr_)) (.cons (.gl 25) .nil))) (.cons (.gl 34) .nil)))))
  (.cons (.asgS (.lv n_types_) (.c (.str n_holder_pointer_)) (.tup (.cons (.c (.str n_ptr_)) (.cons (.gl 34) .nil))))
  (.cons (.forR n_turn_ (.c (.int 3)) (.cons (.asgT [n_wanted_, n_rows_] (.call (.gl 33) (.cons (.lv n_source_) (.cons (.lv n_world_) .nil))))
  (.cons (.forS [n_word_] (.call (.gl 8) (.cons (.lv n_types_) .nil)) (.cons (.asg n_due_ (.call (.gl 31) (.cons (.call (.gl 32) (.cons (.lv n_marks_) (.cons (.lv n_over_) (.cons (.lv n_is_led_) (.cons (.lv n_word_) .nil))))) (.cons (.lv n_rows_) .nil))))
  (.cons (.ifS (.not (.call (.gl 29) (.cons (.lv n_world_) (.cons (.sub (.lv n_types_) (.lv n_word_)) (.cons (.lv n_wanted_) (.cons (.lv n_due_) .nil)))))) (.cons (.ret (.c (.bool false)))
  .nil) .nil)
  .nil)))
  (.cons (.asg n_held_ (.tup (.cons (.c (.str n_interface_)) (.cons (.tup (.cons (.tup (.cons (.c (.str n_f_)) (.cons (.sub (.call (.gl 24) .nil) (.c (.int 0))) .nil))) (.cons (.tup (.cons (.c (.str n_g_)) (.cons (.sub (.call (.gl 24) .nil) (.c (.int 1))) .nil))) .nil))) .nil))))
  (.cons (.asg n_due_ (.call (.gl 31) (.cons (.dic [n_f_, n_g_, n_h_] (.cons (.tup (.cons (.c (.int 0)) (.cons (.c (.bool false)) .nil))) (.cons (.tup (.cons (.c (.int 1)) (.cons (.c (.bool false)) .nil))) (.cons (.c .none) .nil)))) (.cons (.lv n_rows_) .nil))))
  (.cons (.asgS (.attr (.lv n_world_) n_named_) (.c (.str n_m_V_)) (.call (.gl 16) (.cons (.c (.str n_m_V_)) (.cons (.c (.str n_m_)) (.cons (.lv n_held_) (.cons (.dic [] .nil) .nil))))))
  (.cons (.ifS (.or (.cons (.not (.call (.gl 29) (.cons (.lv n_world_) (.cons (.lv n_held_) (.cons (.lv n_wanted_) (.cons (.lv n_due_) .nil)))))) (.cons (.not (.call (.gl 29) (.cons (.lv n_world_) (.cons (.tup (.cons (.c (.str n_named_)) (.cons (.c (.str n_m_V_)) .nil))) (.cons (.lv n_wanted_) (.cons (.lv n_due_) .nil)))))) .nil))) (.cons (.ret (.c (.bool false)))
  .nil) .nil)
  (.cons (.asg n_none_ (.ife (.cmp .Eq (.lv n_rows_) (.lst .nil)) (.c .none) (.tup (.cons (.sub (.sub (.lv n_rows_) (.c (.int 0))) (.c (.int 0))) (.cons (.c (.str n_missing_)) .nil)))))
  (.cons (.forS [n_T_] (.lst (.cons (.tup (.cons (.c (.str n_ptr_)) (.cons (.tup (.cons (.c (.str n_named_)) (.cons (.c (.str n_m_V_)) .nil))) .nil))) (.cons (.tup (.cons (.c (.str n_bool_)) .nil)) (.cons (.tup (.cons (.c (.str n_slice_)) (.cons (.gl 25) .nil))) (.cons (.tup (.cons (.c (.str n_struct_)) (.cons (.tup .nil) .nil))) .nil))))) (.cons (.ifS (.not (.call (.gl 29) (.cons (.lv n_world_) (.cons (.lv n_T_) (.cons (.lv n_wanted_) (.cons (.lv n_none_) .nil)))))) (.cons (.ret (.c (.bool false)))
  .nil) .nil)
  .nil))
  .nil)))))))))
  .nil)))))))
  (.cons (.asg n_world_ (.call (.gl 27) .nil))
  (.cons (.asgS (.attr (.lv n_world_) n_named_) (.c (.str n_m_N_)) (.call (.gl 16) (.cons (.c (.str n_m_N_)) (.cons (.c (.str n_m_)) (.cons (.tup (.cons (.c (.str n_int_)) (.cons (.c (.str n_int_)) .nil))) (.cons (.dic [n_f_] (.cons (.tup (.cons (.c (.bool false)) (.cons (.sub (.call (.gl 24) .nil) (.c (.int 0))) (.cons (.c (.str n_m_N_f_)) .nil)))) .nil)) .nil))))))
  (.cons (.ret (.call (.gl 29) (.cons (.lv n_world_) (.cons (.gl 25) (.cons (.tup (.cons (.c (.str n_interface_)) (.cons (.tup (.cons (.tup (.cons (.c (.str n_f_)) (.cons (.sub (.call (.gl 24) .nil) (.c (.int 1))) .nil))) .nil)) .nil))) (.cons (.tup (.cons (.c (.str n_f_)) (.cons (.c (.str n_other_type_)) .nil))) .nil))))))
  .nil))))
noncomputable def p_law : List Nm := [n_script_]
noncomputable def gls0 : List (Nm × AV) := [(n_own_methods_, .g 1), (n_Reached_, .g 30), (n_without_pointer_, .g 0), (n_embedded_in_, .g 3), (n_len_, .g 50), (n_members_at_, .g 2), (n_Levels_, .g 31), (n_start_type_, .g 4), (n_sorted_, .g 51), (n_find_member_, .g 5), (n_names_of_methods_, .g 6), (n_is_in_set_, .g 8), (n_member_or_none_, .g 7), (n_method_set_, .g 9), (n_lack_of_, .g 10), (n_implements_, .g 11), (n_NamedRow_, .g 32), (n_PLAIN_, (.tup [.str n_func_, .tup [], .tup [], .bool false])), (n_known_rows_, .g 13), (n_int_, .g 54), (n_max_, .g 55), (n__law_take_, .g 15), (n__law_one_, .g 16), (n_tuple_, .g 53), (n__law_sorts_, .g 17), (n__law_number_, (.tup [.str n_named_, .str n_m_N_])), (n_dict_, .g 52), (n_World_, .g 33), (n_satisfied_, .g 12), (n__law_is_so_, .g 23), (n_min_, .g 56), (n__law_due_, .g 21), (n__law_seen_, .g 20), (n__law_asked_, .g 22), (n__law_holder_, (.tup [.str n_named_, .str n_m_H_])), (n__law_built_, .g 19), (n__law_marks_, .g 18), (n__law_pool_, .g 14)]
end
section
structure Cfg.Ok (C : Cfg) : Prop where
  k : C.K.In C.H
  s : C.S.In C.H
  g : C.H.Ns mainGlobals C.mg
  b : C.H.Ns builtinsNs C.mb
  nolimit : C.H.NoLimit
  big : 2 < C.H.objs.size
  sys : ∀ o, C.S.lookup sysModules = some o → seqD o
noncomputable def Room (A : Around) (nd : Nat) : Prop := A.handled = none ∧ A.depth + nd < recursionLimit ∧ A.units + 20 * nd + 200 < cLine
structure EnvOk (env : Env) (X : List Addr) : Prop where
  kind : env.scope.kind = .function
  globals : env.globals = mainGlobals
  builtins : env.builtins = builtinsNs
  loc : env.locals ∈ X
  cells : ∀ n c, env.cells.lookup n = some c → c ∈ X ∧ c ≠ env.locals
  inj : ∀ n n' c, env.cells.lookup n = some c → env.cells.lookup n' = some c → n = n'
  allc : ∀ p ∈ env.cells, p.2 ∈ X
  hasc : ∀ n, env.kindOf n = some .cell → ∃ c, env.cells.lookup n = some c
noncomputable def NsO (o : Obj) (m : PySem.Str → Option Value) : Prop := ∃ es ep, o.data = .dict es ep ∧ StrKeys es ∧ ∀ name, nsFind es name = m name
theorem NsO.noseq {o : Obj} {m : PySem.Str → Option Value} (n : NsO o m) : ¬ seqD o := fun q => by
  obtain ⟨es, ep, e, _⟩ := n
  obtain ⟨xs, k, e2⟩ := q
  rw [e] at e2
  cases e2
theorem dict_noseq {es : List DictEntry} {n : Nat} : ¬ seqD (dictOf es n) := fun ⟨_, _, q⟩ => nomatch q
theorem cell_noseq {o : Obj} {v : Option Value} (h : o.data = .cell v) : ¬ seqD o := fun ⟨_, _, q⟩ => by rw [h] at q; cases q
theorem fields_noseq {o : Obj} {v : Array Value} (h : o.data = .fields v) : ¬ seqD o := fun ⟨_, _, q⟩ => by rw [h] at q; cases q
theorem NsO.ns {h : Heap} {a : Addr} {o : Obj} {m : PySem.Str → Option Value} (n : NsO o m) (e : h.get? a = some o) : h.Ns a m :=
  let ⟨es, ep, h1, h2, h3⟩ := n; ⟨o, es, ep, e, h1, h2, h3⟩
theorem ns_o {h : Heap} {a : Addr} {m : PySem.Str → Option Value} (n : h.Ns a m) : ∃ o, h.get? a = some o ∧ NsO o m :=
  let ⟨o, es, ep, h0, h1, h2, h3⟩ := n; ⟨o, h0, es, ep, h1, h2, h3⟩
noncomputable def LR (C : Cfg) (env : Env) (X γ : List Addr) (led : Led) (l : Loc) : Prop :=
  ∃ oL m, (env.locals, oL) ∈ led ∧ NsO oL m ∧ ∀ x av, lk l x = some av →
    (env.kindOf (toS x) = some .local → ∃ v, m (toS x) = some v ∧ VR C X γ led av v) ∧
    (env.kindOf (toS x) = some .cell → ∃ c oc v, env.cells.lookup (toS x) = some c ∧ (c, oc) ∈ led ∧ oc.data = .cell (some v) ∧ VR C X γ led av v)
noncomputable def CellsOk (env : Env) (led : Led) : Prop := ∀ n c, env.cells.lookup n = some c → ∃ oc ov, (c, oc) ∈ led ∧ oc.data = .cell ov
structure At (C : Cfg) (env : Env) (X γ : List Addr) (led : Led) (l : Loc) (o : Objs) (h : Heap) : Prop where
  hold : Hold C h led
  rel : Rel C X γ led o
  loc : LR C env X γ led l
  cel : CellsOk env led
theorem LR.ext {C : Cfg} {env : Env} {X γ γ' : List Addr} {led led' : Led} {l : Loc} {own : List Addr} (h : LR C env X γ led l) (V : EnvOk env X) (R : Rel C X γ led o) (e : Ext own γ led γ' led') (ho : ∀ x ∈ own, x ∈ X)
    (hx : ∀ x ∈ own, x ≠ env.locals ∧ ∀ n c, env.cells.lookup n = some c → x ≠ c) : LR C env X γ' led' l := by
  obtain ⟨oL, m, h1, h2, h3⟩ := h
  refine ⟨oL, m, e.stay _ h1 (fun q => R.apart _ q V.loc) (fun q => (hx _ q).1 rfl), h2, fun x av hl => ⟨fun hk => ?_, fun hk => ?_⟩⟩
  · obtain ⟨v, a, b⟩ := (h3 x av hl).1 hk
    exact ⟨v, a, VR.ext e ho _ _ b⟩
  · obtain ⟨c, oc, v, a, b, d, f⟩ := (h3 x av hl).2 hk
    exact ⟨c, oc, v, a, e.stay _ b (fun q => R.apart _ q (V.cells _ _ a).1) (fun q => (hx _ q).2 _ _ a rfl), d, VR.ext e ho _ _ f⟩
theorem At.ext {C : Cfg} {env : Env} {X γ γ' : List Addr} {led led' : Led} {l : Loc} {o o' : Objs} {h h' : Heap} (a : At C env X γ led l o h) (V : EnvOk env X) (e : Ext [] γ led γ' led') (D : Hold C h' led') (R : Rel C X γ' led' o') : At C env X γ' led' l o' h' :=
  ⟨D, R, a.loc.ext V a.rel e (by simp) (by simp), fun n c hc => by
    obtain ⟨oc, ov, h1, h2⟩ := a.cel n c hc
    exact ⟨oc, ov, e.stay _ h1 (fun q => a.rel.apart _ q (V.cells _ _ hc).1) (by simp), h2⟩⟩
noncomputable def SE (C : Cfg) (nd : Nat) (env : Env) (X : List Addr) (t : Sem Value) (l : Loc) (o : Objs) (r : AV) (o' : Objs) : Prop :=
  ∀ (A : Around) (s : Shared) (γ : List Addr) (led : Led) (Q E : Value → Shared → Prop), Room A nd → At C env X γ led l o s.heap →
    (∀ v h' tk γ' led', At C env X γ' led' l o' h' → Ext [] γ led γ' led' → VR C X γ' led' r v → Q v { s with heap := h', toks := tk }) →
    wpAny (model C.prog C.w) A t Q E s
noncomputable def ST (C : Cfg) (nd : Nat) (env : Env) (X : List Addr) (t : Sem Bool) (l : Loc) (o : Objs) (r : Bool) (o' : Objs) : Prop :=
  ∀ (A : Around) (s : Shared) (γ : List Addr) (led : Led) (Q : Bool → Shared → Prop) (E : Value → Shared → Prop), Room A nd → At C env X γ led l o s.heap →
    (∀ h' tk γ' led', At C env X γ' led' l o' h' → Ext [] γ led γ' led' → Q r { s with heap := h', toks := tk }) →
    wpAny (model C.prog C.w) A t Q E s
noncomputable def SEs (C : Cfg) (nd : Nat) (env : Env) (X : List Addr) (t : Sem (List Value)) (l : Loc) (o : Objs) (rs : List AV) (o' : Objs) : Prop :=
  ∀ (A : Around) (s : Shared) (γ : List Addr) (led : Led) (Q : List Value → Shared → Prop) (E : Value → Shared → Prop), Room A nd → At C env X γ led l o s.heap →
    (∀ vs h' tk γ' led', At C env X γ' led' l o' h' → Ext [] γ led γ' led' → VRs C X γ' led' rs vs → Q vs { s with heap := h', toks := tk }) →
    wpAny (model C.prog C.w) A t Q E s
section
variable {C : Cfg} {nd : Nat} {env : Env} {X : List Addr} {l : Loc} {o o' o₁ o₂ : Objs} {r r₁ r₂ : AV}
theorem At.ge {γ : List Addr} {led : Led} {h : Heap} (D : At C env X γ led l o h) : C.H.objs.size ≤ h.objs.size := by
  obtain ⟨oL, m, z1, z2, _⟩ := D.loc
  exact Nat.le_of_lt (Nat.lt_of_le_of_lt (D.hold.up z1 z2.noseq) (Heap.lt_size (D.hold.at_ _ z1)))
theorem At.alloc {γ : List Addr} {led : Led} {h h' : Heap} {a : Addr} {ob : Obj} (K : C.Ok) (V : EnvOk env X) (D : At C env X γ led l o h) (hk : ∀ b o, h.get? b = some o → h'.get? b = some o) (hn : h.objs.size ≤ a) (ha : h'.get? a = some ob) :
    At C env X γ ((a, ob) :: led) l o h' ∧ Ext [] γ led γ ((a, ob) :: led) ∧ a ∉ γ ∧ a ∉ X ∧ a ∉ keys led := by
  have hH : C.H.objs.size ≤ h.objs.size := by
    obtain ⟨oL, m, h1, h2, _⟩ := D.loc
    exact Nat.le_of_lt (Nat.lt_of_le_of_lt (D.hold.up h1 h2.noseq) (Heap.lt_size (D.hold.at_ _ h1)))
  have nk : a ∉ keys led := fun q => Nat.lt_irrefl _ (Nat.lt_of_lt_of_le (D.hold.lt q) hn)
  have e : Ext [] γ led γ ((a, ob) :: led) := ⟨⟨[], by simp, by simp⟩, fun p hp _ _ => .tail _ hp, fun x hx => .tail _ hx⟩
  have hold := D.hold.add hk hn ha hH
  refine ⟨D.ext V e hold ?_, e, fun q => nk (D.rel.gmem q), fun q => nk (D.rel.inled _ q), nk⟩
  exact D.rel.ext (own := []) (by simp) (fun p hp _ => .tail _ hp) fun x hx => .tail _ hx
theorem At.allocObj {γ : List Addr} {led : Led} {h h' : Heap} {a : Addr} {ob : Obj} {ao : AObj} (K : C.Ok) (V : EnvOk env X) (D : At C env X γ led l o h) (hk : ∀ b o, h.get? b = some o → h'.get? b = some o) (hn : h.objs.size ≤ a) (ha : h'.get? a = some ob)
    (hi : ∀ γ', Ext [] γ led γ' ((a, ob) :: led) → γ' = γ ++ [a] → ObjIs C X γ' ((a, ob) :: led) a ao) :
    At C env X (γ ++ [a]) ((a, ob) :: led) l (o ++ [ao]) h' ∧ Ext [] γ led (γ ++ [a]) ((a, ob) :: led) ∧ (γ ++ [a])[o.length]? = some a := by
  obtain ⟨D1, e1, n1, n2, n3⟩ := D.alloc K V hk hn ha
  have e : Ext [] γ led (γ ++ [a]) ((a, ob) :: led) := ⟨⟨[a], rfl, by simpa using n3⟩, fun p hp _ _ => .tail _ hp, fun x hx => .tail _ hx⟩
  have hl : (γ ++ [a])[o.length]? = some a := by rw [← D.rel.len]; simp
  refine ⟨D.ext V e D1.hold ⟨by simp [D.rel.len], ?_, ?_, D1.rel.inled, ?_⟩, e, hl⟩
  · exact List.nodup_append.mpr ⟨D.rel.nodup, by simp, fun x hx y hy => by simp at hy; subst hy; exact fun q => n1 (q ▸ hx)⟩
  · intro x hx
    rcases List.mem_append.mp hx with hx | hx
    · exact D.rel.apart x hx
    · simp at hx; subst hx; exact n2
  · intro i ob' b h1 h2
    by_cases hi' : i < o.length
    · rw [List.getElem?_append_left hi'] at h1
      rw [List.getElem?_append_left (by rw [D.rel.len]; exact hi')] at h2
      exact (D.rel.has i ob' b h1 h2).ext e (by simp) fun ob'' hm => .tail _ hm
    · have hl1 := (List.getElem?_eq_some_iff.mp h1).1
      simp at hl1
      have : i = o.length := by omega
      subst this
      rw [hl] at h2
      cases h2
      simp at h1
      subst h1
      exact hi _ e rfl
theorem Room.le {A : Around} {a b : Nat} (h : Room A a) (hb : b ≤ a) : Room A b := ⟨h.1, by have := h.2.1; omega, by have := h.2.2; omega⟩
theorem se_const {k : Const} {n : Nat} {pos : Pos} (hk : match k, r with | .none, .none => True | .bool b, .bool c => b = c | .int i, .int j => i = j | .str s, .str t => s = toS t | _, _ => False) :
    SE C nd env X (eval (.Constant k n pos) env) l o r o := by
  intro A s γ led Q E _ D hQ
  show wpAny _ A (constValue env k) Q E s
  cases k <;> cases r <;> simp only [] at hk
  · exact wpAny_pure (hQ _ _ _ _ _ D .refl rfl)
  · subst hk; exact wpAny_pure (hQ _ _ _ _ _ D .refl rfl)
  · subst hk; exact wpAny_mkInt (hQ _ _ _ _ _ D .refl ⟨_, rfl⟩)
  · subst hk; exact wpAny_mkText (hQ _ _ _ _ _ D .refl ⟨_, rfl⟩)
theorem se_lv {x : Nm} {pos : Pos} (V : EnvOk env X) (hl : lk l x = some r) (hk : env.kindOf (toS x) = some .local ∨ env.kindOf (toS x) = some .cell) (hd : (toS x == ("__debug__" : PySem.Str)) = false) :
    SE C nd env X (eval (.Name (toS x) pos) env) l o r o := by
  intro A s γ led Q E _ D hQ
  obtain ⟨oL, m, h1, h2, h3⟩ := D.loc
  rcases hk with hk | hk
  · obtain ⟨v, hv, hr⟩ := (h3 x r hl).1 hk
    exact wpAny_Name (wpAny_loadName_local V.kind hk (h2.ns (D.hold.at_ _ h1)) hv (hQ v s.heap s.toks γ led D .refl hr)) hd
  · obtain ⟨c, oc, v, hc, hm, hd', hr⟩ := (h3 x r hl).2 hk
    exact wpAny_Name (wpAny_loadName_cell V.kind hk hc ⟨oc, D.hold.at_ _ hm, hd'⟩ (hQ v s.heap s.toks γ led D .refl hr)) hd
noncomputable def GlobIs (C : Cfg) (x : Nm) (av : AV) : Prop := ∃ v, (C.mg (toS x) = some v ∨ (C.mg (toS x) = none ∧ C.mb (toS x) = some v)) ∧ ∀ X γ led, VR C X γ led av v
theorem se_gl {x : Nm} {pos : Pos} (K : C.Ok) (V : EnvOk env X) (hg : GlobIs C x r) (hk : env.kindOf (toS x) = some .globalImplicit) (hd : (toS x == ("__debug__" : PySem.Str)) = false) :
    SE C nd env X (eval (.Name (toS x) pos) env) l o r o := by
  intro A s γ led Q E _ D hQ
  obtain ⟨v, hv, hr⟩ := hg
  have g1 : s.heap.Ns env.globals C.mg := by rw [V.globals]; exact K.g.keeps D.hold.keep
  have g2 : s.heap.Ns env.builtins C.mb := by rw [V.builtins]; exact K.b.keeps D.hold.keep
  rcases hv with hv | ⟨hm, hv⟩
  · exact Calls.Name_function_global V.kind hk (Calls.loadGlobal_global g1 hv (hQ v s.heap s.toks γ led D .refl (hr _ _ _))) hd
  · exact Calls.Name_function_global V.kind hk (Calls.loadGlobal_builtin g1 hm g2 hv (hQ v s.heap s.toks γ led D .refl (hr _ _ _))) hd
theorem ses_nil : SEs C nd env X (spliced []) l o [] o := by
  intro A s γ led Q E _ D hQ
  exact Calls.spliced_nil (hQ [] s.heap s.toks γ led D .refl (by simp [VRs]))
theorem ses_cons {t : Sem Value} {ts : List (Bool × Sem Value)} {rs : List AV} (h1 : SE C nd env X t l o r o₁) (h2 : SEs C nd env X (spliced ts) l o₁ rs o₂) :
    SEs C nd env X (spliced ((false, t) :: ts)) l o (r :: rs) o₂ := by
  intro A s γ led Q E R D hQ
  refine Calls.spliced_cons (h1 A s γ led _ E R D fun v h' tk γ' led' D' e' hv => ?_)
  refine h2 A _ γ' led' _ E R D' fun vs h'' tk' γ'' led'' D'' e'' hvs => ?_
  refine hQ (v :: vs) h'' tk' γ'' led'' D'' (e'.trans e'') ?_
  simp only [VRs]
  exact ⟨v, vs, rfl, VR.ext e'' (by simp) _ _ hv, hvs⟩
theorem se_tup {elts : List Expr} {k : Nat} {pos : Pos} {rs : List AV} (K : C.Ok) (V : EnvOk env X) (h : SEs C nd env X (spliced (backTo pos (starEach elts env))) l o rs o') (hz : rs.length ≤ 1000) :
    SE C nd env X (eval (.Tuple elts k pos) env) l o (.tup rs) o' := by
  intro A s γ led Q E R D hQ
  refine Tuple_ (h A s γ led _ E R D fun vs h' tk γ' led' D' e' hvs => ?_)
  refine wpAny_newObj_type ?_ (by
    show vs.toArray.size ≤ sizeLine
    rw [List.size_toArray, hvs.length]; exact Nat.le_trans hz (by decide))
  obtain ⟨D2, e2, n1, n2, n3⟩ := D'.alloc (ob := tupO vs 0) K V (fun b o q => Heap.get?_push_of_some _ q) (Nat.le_refl _) (Heap.get?_push_size _ rfl)
  refine hQ _ _ tk _ _ D2 (e'.trans e2) ?_
  simp only [VR]
  exact ⟨_, vs, 0, rfl, .inr ⟨.head _, n1, n2⟩, VRs.ext e2 (by simp) _ _ hvs⟩
theorem se_lst {elts : List Expr} {pos : Pos} {rs : List AV} (K : C.Ok) (V : EnvOk env X) (h : SEs C nd env X (spliced (backTo pos (starEach elts env))) l o rs o') (hz : rs.length ≤ 1000) :
    SE C nd env X (eval (.List elts pos) env) l o (.ref o'.length) (o' ++ [.list rs]) := by
  intro A s γ led Q E R D hQ
  refine List_ (h A s γ led _ E R D fun vs h' tk γ' led' D' e' hvs => ?_)
  refine wpAny_newObj_type ?_ (by
    show vs.toArray.size ≤ sizeLine
    rw [List.size_toArray, hvs.length]; exact Nat.le_trans hz (by decide))
  obtain ⟨D2, e2, hl⟩ := D'.allocObj (ob := listO vs 0) (ao := .list rs) K V (fun b o q => Heap.get?_push_of_some _ q) (Nat.le_refl _) (Heap.get?_push_size _ rfl) (fun γ₂ e₂ hγ => ⟨vs, _, .head _, ⟨⟨0, rfl⟩, D'.ge⟩, VRs.ext e₂ (by simp) _ _ hvs⟩)
  refine hQ _ _ tk _ _ D2 (e'.trans e2) ?_
  simp only [VR]
  exact ⟨_, hl, rfl⟩
end
end
section
theorem nat_lo (n : Nat) : -(2 ^ 63 : Int) ≤ Int.ofNat n := by show -(2 ^ 63 : Int) ≤ (n : Int); omega
theorem nat_0 (n : Nat) : (0 : Int) ≤ Int.ofNat n := by show (0 : Int) ≤ (n : Int); omega
theorem nat_hi {n : Nat} (h : n < 1000) : Int.ofNat n < (2 ^ 63 : Int) := by show (n : Int) < 2 ^ 63; omega
theorem nat_seq {n len : Nat} (h : n < len) : seqIndex? (Int.ofNat n) len = some n := by
  show seqIndex? (n : Int) len = some n
  unfold seqIndex?
  have e : (if (n : Int) < 0 then (n : Int) + (len : Int) else (n : Int)) = (n : Int) := if_neg (by omega)
  simp only [e]
  rw [if_pos (by simp [h])]
  simp
theorem is_str {prog : Program} {w : World} (n : Nm) (t : Tok) : (strKind prog w).is (toS n) (.str (toS n) t) = true := by
  show Value.isStrOf (toS n) (.str (toS n) t) = true
  simp [Value.isStrOf]
theorem eqN_dec (k n : Nm) : decide (k = n) = eqN k n := by
  cases q : eqN k n with
  | true => rw [eqN_iff] at q; simp [q]
  | false => rw [eqN_false] at q; simp [q]
noncomputable def kvs (ks : List Nm) (vs : List Value) : List (PySem.Str × Value) := (ks.map toS).zip vs
section
variable {C : Cfg} {X γ : List Addr} {led : Led}
theorem dget_rel : ∀ {ks : List Nm} {xs : List AV} {vs : List Value} {n : Nm} {r : AV}, dget ks xs n = some r → VRs C X γ led xs vs → ∃ v, dgetV ks vs n = some v ∧ VR C X γ led r v
  | [], _, _, _, _, h, _ => by simp [dget] at h
  | _ :: _, [], _, _, _, h, _ => by simp [dget] at h
  | k :: ks, x :: xs, vs, n, r, h, hv => by
    simp only [VRs] at hv
    obtain ⟨v, vs', rfl, h2, h3⟩ := hv
    simp only [dget] at h
    cases q : eqN k n with
    | true =>
      rw [q] at h
      cases h
      exact ⟨v, by simp [dgetV, eqN_dec, q], h2⟩
    | false =>
      rw [q] at h
      obtain ⟨u, h4, h5⟩ := dget_rel h h3
      exact ⟨u, by simp [dgetV, eqN_dec, q, h4], h5⟩
theorem valueAt_kvs : ∀ {ks : List Nm} {vs : List Value} {n : Nm}, valueAt (kvs ks vs) (toS n) = dgetV ks vs n
  | [], vs, n => by simp [kvs, dgetV, valueAt]
  | k :: ks, [], n => by simp [kvs, dgetV, valueAt]
  | k :: ks, v :: vs, n => by
    have ih := @valueAt_kvs ks vs n
    unfold valueAt at ih ⊢
    simp only [kvs, List.map_cons, List.zip_cons_cons, List.find?_cons, dgetV, eqN_dec]
    cases q : eqN k n with
    | true => rw [eqN_iff] at q; simp [q]
    | false =>
      rw [eqN_false] at q
      have : toS k ≠ toS n := fun e => q (toS_inj e)
      simp only [this, decide_false]
      exact ih
theorem dhas_iff : ∀ {ks : List Nm} {n : Nm}, dhas ks n = true ↔ n ∈ ks
  | [], n => by simp [dhas]
  | k :: ks, n => by
    have ih := @dhas_iff ks n
    simp only [dhas, Bool.or_eq_true, eqN_iff, ih, List.mem_cons]
    constructor
    · rintro (h | h)
      · exact .inl h.symm
      · exact .inr h
    · rintro (h | h)
      · exact .inl h.symm
      · exact .inr h
theorem dgetV_isSome : ∀ {ks : List Nm} {vs : List Value} {n : Nm}, vs.length = ks.length → (dgetV ks vs n).isSome = dhas ks n
  | [], vs, n, _ => by simp [dgetV, dhas]
  | k :: ks, [], n, h => by simp at h
  | k :: ks, v :: vs, n, h => by
    simp only [dgetV, eqN_dec, dhas]
    cases q : eqN k n with
    | true => simp
    | false => simp [dgetV_isSome (n := n) (by simpa using h : vs.length = ks.length)]
theorem Ents.length {w : World} : ∀ {es : List DictEntry} {ks : List Nm} {vs : List Value}, Ents w es ks vs → es.length = ks.length ∧ vs.length = ks.length
  | [], _, _, h => by obtain ⟨rfl, rfl⟩ := h; exact ⟨rfl, rfl⟩
  | e :: es, _, _, h => by
    obtain ⟨k, ks', v, vs', rfl, rfl, _, _, _, r⟩ := h
    have := Ents.length r
    exact ⟨by rw [List.length_cons, List.length_cons, this.1], by rw [List.length_cons, List.length_cons, this.2]⟩
theorem Ents.keysOf {prog : Program} {w : World} : ∀ {es : List DictEntry} {ks : List Nm} {vs : List Value}, Ents w es ks vs → ∀ e ∈ es, ∃ k, (strKind prog w).is k e.key = true ∧ e.hash = (strKind prog w).hash k
  | [], _, _, _ => fun e he => nomatch he
  | e :: es, _, _, h => by
    obtain ⟨k, ks', v, vs', rfl, rfl, h1, ⟨t, h2⟩, _, r⟩ := h
    intro e' he'
    rcases List.mem_cons.mp he' with rfl | he'
    · refine ⟨toS k, ?_, h1⟩
      rw [h2]
      show Value.isStrOf (toS k) (.str (toS k) t) = true
      simp [Value.isStrOf]
    · exact Ents.keysOf r e' he'
theorem Ents.pairs {prog : Program} {w : World} : ∀ {es : List DictEntry} {ks : List Nm} {vs : List Value}, Ents w es ks vs → Pairs (strKind prog w) es (kvs ks vs)
  | [], _, _, h => by obtain ⟨rfl, rfl⟩ := h; exact .nil
  | e :: es, _, _, h => by
    obtain ⟨k, ks', v, vs', rfl, rfl, h1, ⟨t, h2⟩, h3, r⟩ := h
    refine .cons ?_ h3 (Ents.pairs r)
    rw [h2]
    show Value.isStrOf (toS k) (.str (toS k) t) = true
    simp [Value.isStrOf]
theorem kvs_keys {ks : List Nm} {vs : List Value} (h : vs.length = ks.length) : (kvs ks vs).map (·.1) = ks.map toS := by
  unfold kvs
  rw [List.map_fst_zip]
  simp [h]
theorem kvs_nodup {ks : List Nm} {vs : List Value} (h : vs.length = ks.length) (hn : ks.Nodup) : ((kvs ks vs).map (·.1)).Nodup := by
  rw [kvs_keys h]
  exact hn.map _ fun _ _ hab e => hab (toS_inj e)
theorem Ents.dictAt {prog : Program} {w : World} {h : Heap} {a : Addr} {es : List DictEntry} {n : Nat} {ks : List Nm} {vs : List Value} (x : Ents w es ks vs) (hn : ks.Nodup) (ho : h.get? a = some (dictOf es n)) :
    h.DictAt (strKind prog w) a (kvs ks vs) n := by
  refine ⟨_, es.toArray, ho, ⟨rfl, rfl, rfl⟩, rfl, fun e he => x.keysOf e (by simpa using he), by simpa using x.pairs, kvs_nodup x.length.2 hn⟩
theorem Stb.get {h : Heap} {a : Addr} {o : Obj} (K : C.Ok) (D : Hold C h led) (x : Stb C X γ led a o) : h.get? a = some o := by
  rcases x with x | ⟨x, _⟩
  · exact D.keep _ _ (K.s _ _ x)
  · exact D.at_ _ x
theorem led_sys (K : C.Ok) {h : Heap} {a : Addr} {es : List DictEntry} {n : Nat} (D : Hold C h led) (hm : (a, dictOf es n) ∈ led) : (a == sysModules) = false := by
  cases q : a == sysModules with
  | false => rfl
  | true =>
    have e : a = sysModules := eq_of_beq q
    subst e
    have b := K.big
    have : C.H.objs.size ≤ 1 := D.up hm dict_noseq
    omega
theorem sys_ne (K : C.Ok) {h : Heap} {a : Addr} {es : List DictEntry} {n : Nat} (D : Hold C h led) (x : Stb C X γ led a (dictOf es n)) : (a == sysModules) = false := by
  rcases x with x | ⟨x, _⟩
  · cases q : a == sysModules with
    | false => rfl
    | true =>
      cases (eq_of_beq q : a = sysModules)
      exact absurd (K.sys _ x) dict_noseq
  · exact led_sys K D x
end
section
variable {C : Cfg} {X γ : List Addr} {led : Led} {o : Objs} {A : Around} {s : Shared} {E : Value → Shared → Prop}
theorem tup_at {h : Heap} (K : C.Ok) (D : Hold C h led) {a : Addr} {vs : List Value} {n : Nat} (x : Stb C X γ led a (tupO vs n)) : IsTup h a vs.toArray := ⟨_, x.get K D, rfl, n, rfl⟩
theorem list_item {value slice : Expr} {xs : List AV} {vs : List Value} {k : Nat} {r : AV} {a : Addr} {u : Nat} {Q : Value → Shared → Prop} (hl : s.heap.IsList a vs.toArray) (hxs : VRs C X γ led xs vs) (h : itemA xs (.ofNat k) = some r)
    (hsl : ∀ a b, subscripted slice false a b = operate [a, b] (getItem a b)) (hQ : ∀ res tk, VR C X γ led r res → Q res { s with toks := tk }) : wpAny (model C.prog C.w) A (subscriptTail value slice (.ref a) (.int (.ofNat k) u)) Q E s := by
  refine ot h fun hb h => ?_
  obtain ⟨w, hw, hr⟩ := hxs.get h
  exact tail_any hl.typeIs slot_list_getitem.lookup (wpAny_getItem_list hl (nat_0 k) (nat_hi (Nat.le_of_ble_eq_true hb)) (by simpa using hw) (by have := hQ w s.toks hr; exact this)) (hsl _ _)
theorem tup_item {value slice : Expr} {xs : List AV} {vs : List Value} {i : Int} {r : AV} {a : Addr} {u : Nat} {Q : Value → Shared → Prop} (ht : IsTup s.heap a vs.toArray) (hxs : VRs C X γ led xs vs) (h : itemA xs i = some r)
    (hsl : ∀ a b, subscripted slice false a b = operate [a, b] (getItem a b)) (hQ : ∀ res tk, VR C X γ led r res → Q res { s with toks := tk }) : wpAny (model C.prog C.w) A (subscriptTail value slice (.ref a) (.int i u)) Q E s := by
  cases i with
  | ofNat k =>
    refine ot h fun hb h => ?_
    have hb' := Nat.le_of_ble_eq_true hb
    obtain ⟨u, hu, hr⟩ := hxs.get h
    have hk := (List.getElem?_eq_some_iff.mp hu).1
    exact tail_any ht.typeIs slot_tuple_getitem.lookup (getItem_tuple ht (nat_lo k) (nat_hi hb') (j := k) (by rw [List.size_toArray]; exact nat_seq hk) (by simpa using hu) (by have := hQ u s.toks hr; exact this)) (hsl _ _)
  | negSucc k =>
    refine ot h fun hb h => ?_
    rw [Bool.and_eq_true] at hb
    have hb1 := Nat.le_of_ble_eq_true hb.1
    have hb2 := Nat.le_of_ble_eq_true hb.2
    obtain ⟨u, hu, hr⟩ := hxs.get h
    have hl := hxs.length
    refine tail_any ht.typeIs slot_tuple_getitem.lookup (getItem_tuple ht (by omega) (by omega) (j := xs.length - (k + 1)) ?_ (by simpa using hu) (by have := hQ u s.toks hr; exact this)) (hsl _ _)
    unfold seqIndex?
    simp only [List.size_toArray, hl]
    have e : (if (Int.negSucc k) < 0 then Int.negSucc k + (xs.length : Int) else Int.negSucc k) = ((xs.length - (k + 1) : Nat) : Int) := by
      rw [if_pos (by omega)]; omega
    simp only [e]
    rw [if_pos (by simp; omega)]
    simp
theorem sub_ok {value slice : Expr} {v j r : AV} {V J : Value} {Q : Value → Shared → Prop} (K : C.Ok) (D : Hold C s.heap led) (R : Rel C X γ led o) (hv : VR C X γ led v V) (hj : VR C X γ led j J) (h : subA o v j = some r)
    (hsl : ∀ a b, subscripted slice false a b = operate [a, b] (getItem a b)) (hQ : ∀ res tk, VR C X γ led r res → Q res { s with toks := tk }) :
    wpAny (model C.prog C.w) A (subscriptTail value slice V J) Q E s := by
  delta subA at h
  cases v with
  | tup xs =>
    dsimp only at h
    refine oa h fun i hi h => ?_
    cases jInt_ok hi
    obtain ⟨a, vs, n, rfl, hs, hxs⟩ := vr_tup hv
    obtain ⟨t, rfl⟩ := vr_int hj
    exact tup_item (tup_at K D hs) hxs h hsl hQ
  | str l =>
    dsimp only at h
    refine oa h fun i hi h => oa h fun n hn h => ot h fun hb h => oa h fun c hc h9 => ?_
    cases jInt_ok hi
    cases jNat_ok hn
    obtain ⟨t, rfl⟩ := vr_str hv
    obtain ⟨u, rfl⟩ := vr_int hj
    have hb' := Nat.le_of_ble_eq_true hb
    cases h9
    have hk := (List.getElem?_eq_some_iff.mp hc).1
    refine tail_any (typeIs_str s _ t) slot_str_getitem.lookup (PyProof.Rows.getItem_str (c := c) ?_ ?_ (hQ _ _ ⟨_, rfl⟩)) (hsl _ _)
    · have h1 := nat_lo n
      have h2 := nat_hi hb'
      simp only [Bool.or_eq_false_iff, decide_eq_false_iff_not]
      omega
    · have e2 : (toS l).length = l.length := by simp [toS, Str.length]
      rw [e2, nat_seq hk]
      simp [toS, hc]
  | fdict ks xs =>
    dsimp only at h
    refine oa h fun n hn h => ?_
    cases jStr_ok hn
    obtain ⟨a, es, ep, vs, rfl, hs, he, hn, hxs⟩ := vr_fdict hv
    obtain ⟨t, rfl⟩ := vr_str hj
    obtain ⟨u, hu, hr⟩ := dget_rel h hxs
    have hd := (he.dictAt (prog := C.prog) hn (hs.get K D)).dictOf
    exact tail_any hd.typeIs F.slot_dict_getitem.lookup (wpAny_getItem_of (knd := strKind C.prog C.w) (k := toS n) (is_str _ _) hd.mapOf (v := u) (by rw [valueAt_kvs, hu]) (hQ _ _ hr)) (hsl _ _)
  | fsub ks xs =>
    dsimp only at h
    refine oa h fun n hn h => ?_
    cases jStr_ok hn
    obtain ⟨a, es, ep, ks', vs', us, rfl, hs, he, hn, hp, hxs⟩ := vr_fsub hv
    obtain ⟨t, rfl⟩ := vr_str hj
    obtain ⟨u, hu, hr⟩ := dget_rel h hxs
    have hd := (he.dictAt (prog := C.prog) hn (hs.get K D)).dictOf
    exact tail_any hd.typeIs F.slot_dict_getitem.lookup (wpAny_getItem_of (knd := strKind C.prog C.w) (k := toS n) (is_str _ _) hd.mapOf (v := u) (by rw [valueAt_kvs, hp.2 _ _ hu]) (hQ _ _ hr)) (hsl _ _)
  | ref i =>
    dsimp only at h
    delta subO at h
    obtain ⟨a, hi, rfl⟩ := vr_ref hv
    refine oa h fun ob ho h => oe h (fun p hp h => oa h fun n hn h => ?_) fun h => oa h fun i hi h => oa h fun n hn h => oe h (fun xs hx h => ?_) fun h => oa h fun xs hx h => ?_
    · obtain ⟨ks, xs, ep⟩ := p
      cases jDct_ok hp
      cases jStr_ok hn
      obtain ⟨u, rfl⟩ := vr_str hj
      obtain ⟨es, ep', vs, hm, _, he, hn, hxs⟩ := R.has _ _ _ ho hi
      obtain ⟨w, hw, hr⟩ := dget_rel h hxs
      have hd := (he.dictAt (prog := C.prog) hn (D.at_ _ hm)).dictOf
      exact tail_any hd.typeIs F.slot_dict_getitem.lookup (wpAny_getItem_of (knd := strKind C.prog C.w) (k := toS n) (is_str _ _) hd.mapOf (v := w) (by rw [valueAt_kvs, hw]) (hQ _ _ hr)) (hsl _ _)
    · cases jInt_ok hi
      cases jNat_ok hn
      cases jLst_ok hx
      obtain ⟨u, rfl⟩ := vr_int hj
      obtain ⟨vs, ob, hm, ⟨⟨n', rfl⟩, _⟩, hxs⟩ := R.has _ _ _ ho ‹_›
      exact list_item ⟨_, D.at_ _ hm, rfl, n', rfl⟩ hxs h hsl hQ
    · cases jInt_ok hi
      cases jNat_ok hn
      cases jFix_ok hx
      obtain ⟨u, rfl⟩ := vr_int hj
      obtain ⟨vs, ob, hm, hlo, hxs⟩ := R.has _ _ _ ho ‹_›
      exact list_item ⟨_, D.at_ _ hm, hlo.1⟩ hxs h hsl hQ
  | _ => exact nsM h
end
end
section
theorem okL_ok : ∀ {l : Nm}, okL l = true → PyData.strOk (toS l) = true
  | [], _ => by simp [PyData.strOk, toS]
  | a :: r, h => by
    simp only [okL, Bool.and_eq_true] at h
    have ih := @okL_ok r h.2
    have ha := Nat.le_of_ble_eq_true h.1
    simp [PyData.strOk, toS] at ih ⊢
    exact ⟨ha, ih⟩
mutual
noncomputable def toPy : AV → PyData
  | .none => .none
  | .bool b => .bool b
  | .int i => .int i
  | .str l => .str (toS l)
  | .tup xs => .tuple (toPys xs)
  | .ref _ => .none
  | .g _ => .none
  | .fdict _ _ => .none
  | .finst _ _ _ => .none
  | .fsub _ _ => .none
  | .top => .none
noncomputable def toPys : List AV → List PyData
  | [] => []
  | x :: xs => toPy x :: toPys xs
end
section
variable {C : Cfg} {X γ : List Addr} {led : Led} {h : Heap}
mutual
theorem py_reads (K : C.Ok) (D : Hold C h led) (n : Nat) : ∀ (x : AV) (v : Value), okD n x = true → VR C X γ led x v → ∃ as, Reads h v (toPy x) as
  | .none, v, _, hv => by cases vr_none hv; exact ⟨_, Reads.none⟩
  | .bool b, v, _, hv => by cases vr_bool hv; exact ⟨_, Reads.bool b⟩
  | .int i, v, _, hv => by obtain ⟨t, rfl⟩ := vr_int hv; exact ⟨_, Reads.int i t⟩
  | .str l, v, _, hv => by obtain ⟨t, rfl⟩ := vr_str hv; exact ⟨_, Reads.str _ t⟩
  | .tup xs, v, ho, hv => by
    cases n with
    | zero => exact nfB ho
    | succ n =>
      obtain ⟨a, vs, m, rfl, hs, hxs⟩ := vr_tup hv
      obtain ⟨as, r⟩ := pys_reads K D n xs vs ho hxs
      exact ⟨as, Reads.tuple (hs.get K D) rfl rfl (by simpa using r)⟩
  | .ref _, v, ho, hv => nfB ho
  | .g _, v, ho, hv => nfB ho
  | .fdict _ _, v, ho, hv => nfB ho
  | .finst _ _ _, v, ho, hv => nfB ho
  | .fsub _ _, v, ho, hv => nfB ho
  | .top, v, ho, hv => nfB ho
theorem pys_reads (K : C.Ok) (D : Hold C h led) (n : Nat) : ∀ (xs : List AV) (vs : List Value), okDs n xs = true → VRs C X γ led xs vs → ∃ as, ReadsAll h vs (toPys xs) as
  | [], vs, _, hv => by simp only [VRs] at hv; subst hv; exact ⟨_, ReadsAll.nil⟩
  | x :: xs, vs, ho, hv => by
    obtain ⟨v, vs', rfl, h1, h2⟩ := hv
    obtain ⟨o1, o2⟩ := and2 ho
    obtain ⟨as, r⟩ := py_reads K D n x v o1 h1
    obtain ⟨bs, r'⟩ := pys_reads K D n xs vs' o2 h2
    exact ⟨_, ReadsAll.cons r r'⟩
end
end
mutual
theorem py_shape (n : Nat) : ∀ (x : AV), okD n x = true → (toPy x).canLay0 = true ∧ (toPy x).depth ≤ n
  | .none, _ => ⟨rfl, Nat.zero_le _⟩
  | .bool b, _ => ⟨rfl, Nat.zero_le _⟩
  | .int i, _ => ⟨rfl, Nat.zero_le _⟩
  | .str l, ho => ⟨okL_ok ho, Nat.zero_le _⟩
  | .tup xs, ho => by
    cases n with
    | zero => exact nfB ho
    | succ n =>
      have := pys_shape n xs ho
      simp only [toPy, PyData.canLay0, PyData.depth]
      exact ⟨this.1, by omega⟩
  | .ref _, ho => nfB ho
  | .g _, ho => nfB ho
  | .fdict _ _, ho => nfB ho
  | .finst _ _ _, ho => nfB ho
  | .fsub _ _, ho => nfB ho
  | .top, ho => nfB ho
theorem pys_shape (n : Nat) : ∀ (xs : List AV), okDs n xs = true → PyData.canLayAll0 (toPys xs) = true ∧ PyData.depthAll (toPys xs) ≤ n
  | [], _ => ⟨rfl, Nat.zero_le _⟩
  | x :: xs, ho => by
    obtain ⟨o1, o2⟩ := and2 ho
    have a := py_shape n x o1
    have b := pys_shape n xs o2
    simp only [toPys, PyData.canLayAll0, PyData.depthAll, a.1, b.1, Bool.and_self, true_and]
    have a2 := a.2
    have b2 := b.2
    omega
end
mutual
theorem eqD_py : ∀ (x y : AV) (b : Bool), eqD x y = some b → PyData.eqv (toPy x) (toPy y) = b
  | .tup xs, y, b, h => by
    cases y with
    | tup ys => exact eqDs_py xs ys b h
    | none => cases h; rfl
    | str l => cases h; rfl
    | bool c => cases h; rfl
    | _ => exact nsM h
  | .none, y, b, h => by
    cases y with
    | tup ys => cases h; rfl
    | none => cases h; rfl
    | str l => cases h; rfl
    | bool c => cases h; rfl
    | int c => cases h; rfl
    | _ => exact nsM h
  | .bool c, y, b, h => by
    cases y with
    | bool d => cases h; cases c <;> cases d <;> rfl
    | none => cases h; rfl
    | str l => cases h; rfl
    | tup l => cases h; rfl
    | _ => exact nsM h
  | .int c, y, b, h => by
    cases y with
    | int d => cases h; simp only [toPy, PyData.eqv]; rfl
    | none => cases h; rfl
    | _ => exact nsM h
  | .str c, y, b, h => by
    cases y with
    | str d =>
      cases h
      simp only [toPy, PyData.eqv]
      exact beq_toS c d
    | none => cases h; rfl
    | bool l => cases h; rfl
    | tup l => cases h; rfl
    | _ => exact nsM h
  | .ref _, _, _, h => nsM h
  | .g _, _, _, h => nsM h
  | .fdict _ _, _, _, h => nsM h
  | .finst _ _ _, _, _, h => nsM h
  | .fsub _ _, _, _, h => nsM h
  | .top, _, _, h => nsM h
theorem eqDs_py : ∀ (xs ys : List AV) (b : Bool), eqDs xs ys = some b → PyData.eqvAll (toPys xs) (toPys ys) = b
  | [], [], b, h => by cases h; rfl
  | [], _ :: _, b, h => by cases h; rfl
  | _ :: _, [], b, h => by cases h; rfl
  | x :: xs, y :: ys, b, h => by
    refine oa h fun c hc h => oa h fun d hd h => ?_
    cases h
    simp only [toPys, PyData.eqvAll, eqD_py x y c hc, eqDs_py xs ys d hd]
end
section
variable {C : Cfg} {X γ : List Addr} {led : Led} {o : Objs} {A : Around} {s : Shared} {E : Value → Shared → Prop} {nd : Nat}
theorem Room.units {A : Around} (R : Room A nd) : A.units + 64 < cLine := by have := R.2.2; omega
theorem truthy_ok {a : AV} {v : Value} {b : Bool} {Q : Bool → Shared → Prop} (K : C.Ok) (D : Hold C s.heap led) (hv : VR C X γ led a v) (h : truthyA a = some b) (hQ : ∀ tk, Q b { s with toks := tk }) :
    wpAny (model C.prog C.w) A (truthy v) Q E s := by
  cases a with
  | none => cases vr_none hv; cases h; exact PyProof.Rows.truthy_none (hQ s.toks)
  | bool b => cases vr_bool hv; cases h; exact wpAny_truthy_bool (hQ s.toks)
  | int i =>
    obtain ⟨t, rfl⟩ := vr_int hv
    cases h
    refine PyProof.Rows.truthy_int ?_
    have e : (i != 0) = !decide (i = 0) := by by_cases q : i = 0 <;> simp [q]
    rw [e]; exact hQ s.toks
  | tup xs =>
    obtain ⟨a, vs, n, rfl, hs, hxs⟩ := vr_tup hv
    cases xs with
    | nil =>
      cases h
      cases hxs
      exact truthy_tuple (tup_at K D hs) (by simp) (hQ _)
    | cons x r =>
      refine ot h fun hb h => ?_
      have hb' := Nat.le_of_ble_eq_true hb
      cases h
      have hl := hxs.length
      refine truthy_tuple (tup_at K D hs) (by rw [List.size_toArray, hl, List.length_cons]; omega) ?_
      have : (vs.toArray).isEmpty = false := by
        cases vs with
        | nil => simp at hl
        | cons => simp
      rw [this]; exact hQ _
  | _ => exact nsM h
theorem eqT8_reads {a b : AV} {u v : Value} {r : Bool} (K : C.Ok) (D : Hold C s.heap led) (ha : VR C X γ led a u) (hb : VR C X γ led b v) (h : eqT8 a b = some r) :
    ∃ x y as bs, Reads s.heap u x as ∧ Reads s.heap v y bs ∧ SeqAt.shaped x = true ∧ SeqAt.shaped y = true ∧ PyData.eqv x y = r := by
  refine ot h fun hk h => ?_
  obtain ⟨k1, k2⟩ := and2 hk
  obtain ⟨as, ra⟩ := py_reads K D 8 _ _ k1 ha
  obtain ⟨bs, rb⟩ := py_reads K D 8 _ _ k2 hb
  have sh : ∀ x : AV, okD 8 x = true → SeqAt.shaped (toPy x) = true := fun x hx => by
    have sa := py_shape 8 _ hx
    unfold SeqAt.shaped; rw [sa.1, Bool.true_and]; exact decide_eq_true (by have := sa.2; omega)
  exact ⟨_, _, as, bs, ra, rb, sh _ k1, sh _ k2, eqD_py _ _ _ h⟩
theorem eqTop_ok {a b : AV} {u v : Value} {r : Bool} {Q : Value → Shared → Prop} (K : C.Ok) (D : Hold C s.heap led) (R : Room A nd) (ha : VR C X γ led a u) (hb : VR C X γ led b v) (h : eqTop a b = some r) (hQ : Q (.bool r) s) :
    wpAny (model C.prog C.w) A (compareOp .Eq u v) Q E s := by
  have main : eqT8 a b = some r → wpAny (model C.prog C.w) A (compareOp .Eq u v) Q E s := fun h => by
    obtain ⟨x, y, as, bs, ra, rb, s1, s2, e⟩ := eqT8_reads K D ha hb h
    exact eq_dataH ra rb s1 s2 R.units (by rw [e]; exact hQ)
  refine oe h (fun x hx h => oe h (fun y hy h => ?_) main) main
  cases jStr_ok hx
  cases jStr_ok hy
  obtain ⟨t, rfl⟩ := vr_str ha
  obtain ⟨t', rfl⟩ := vr_str hb
  cases h
  refine eq_str ?_
  rw [beq_toS]; exact hQ
theorem neTop_ok {a b : AV} {u v : Value} {r : Bool} {Q : Value → Shared → Prop} (K : C.Ok) (D : Hold C s.heap led) (R : Room A nd) (ha : VR C X γ led a u) (hb : VR C X γ led b v) (h : eqTop a b = some r) (hQ : Q (.bool (!r)) s) :
    wpAny (model C.prog C.w) A (compareOp .NotEq u v) Q E s := by
  have main : eqT8 a b = some r → wpAny (model C.prog C.w) A (compareOp .NotEq u v) Q E s := fun h => by
    obtain ⟨x, y, as, bs, ra, rb, s1, s2, e⟩ := eqT8_reads K D ha hb h
    exact ne_dataH ra rb s1 s2 R.units (by rw [e]; exact hQ)
  refine oe h (fun x hx h => oe h (fun y hy h => ?_) main) main
  cases jStr_ok hx
  cases jStr_ok hy
  obtain ⟨t, rfl⟩ := vr_str ha
  obtain ⟨t', rfl⟩ := vr_str hb
  cases h
  refine ne_str ?_
  have e : (toS x != toS y) = !eqN x y := congrArg not (beq_toS x y)
  rw [e]; exact hQ
end
end
section
section
variable {C : Cfg} {X γ : List Addr} {led : Led} {o : Objs} {A : Around} {s : Shared} {E : Value → Shared → Prop} {nd : Nat}
theorem list_at {h : Heap} (D : Hold C h led) {a : Addr} {vs : List Value} {ob : Obj} (x : (a, ob) ∈ led) (y : ∃ n, ob = listO vs n) : h.IsList a vs.toArray := by obtain ⟨n, rfl⟩ := y; exact ⟨_, D.at_ _ x, rfl, n, rfl⟩
theorem emptyL_ok {i : Nat} {b : Bool} {a : Addr} {h : Heap} (D : Hold C h led) (R : Rel C X γ led o) (e : emptyL o (.ref i) = some b) (hi : γ[i]? = some a) : ∃ vs ob, (a, ob) ∈ led ∧ (∃ n, ob = listO vs n) ∧ vs.isEmpty = b := by
  refine oa e fun j hj e => oa e fun ob ho e => oa e fun xs hx ez => ?_
  cases hj
  cases jLst_ok hx
  cases ez
  obtain ⟨vs, ob, hm, hlo, hv⟩ := R.has _ _ _ ho hi
  refine ⟨vs, ob, hm, hlo.1, ?_⟩
  cases xs with
  | nil => cases hv; rfl
  | cons x xs => obtain ⟨v, vs', rfl, _⟩ := hv; rfl
theorem size_ne {vs us : List Value} {b c : Bool} (h1 : vs.isEmpty = b) (h2 : us.isEmpty = c) (h : b ≠ c) : (vs.toArray.size != us.toArray.size) = true := by
  rw [bne_iff_ne]
  simp only [List.size_toArray]
  cases vs <;> cases us <;> simp_all
theorem listEq_ok {i j : Nat} {u v : Value} {b c : Bool} {Q : Value → Shared → Prop} (D : Hold C s.heap led) (R : Rel C X γ led o) (W : Room A nd) (hu : VR C X γ led (.ref i) u) (hv : VR C X γ led (.ref j) v)
    (hb : emptyL o (.ref i) = some b) (hc : emptyL o (.ref j) = some c) (hbc : (b || c) = true) (hQ : Q (.bool (b && c)) s) : wpAny (model C.prog C.w) A (compareOp .Eq u v) Q E s := by
  simp only [VR] at hu hv
  obtain ⟨x, hx, rfl⟩ := hu
  obtain ⟨y, hy, rfl⟩ := hv
  obtain ⟨vs, ob1, m1, o1, e1⟩ := emptyL_ok D R hb hx
  obtain ⟨us, ob2, m2, o2, e2⟩ := emptyL_ok D R hc hy
  have hun : A.units < cLine := by have := W.2.2; omega
  by_cases q : b = c
  · subst q
    have : b = true := by cases b <;> simp_all
    subst this
    have v1 : vs = [] := by simpa using e1
    have v2 : us = [] := by simpa using e2
    subst v1 v2
    exact SeqAt.eq_listAt (e := fun _ => true) (list_at D m1 o1) (list_at D m2 o2) rfl hun (fun j h1 _ => by simp at h1) (by simpa using hQ)
  · refine SeqAt.eq_list_lengthsAt (list_at D m1 o1) (list_at D m2 o2) (size_ne e1 e2 q) hun ?_
    have : (b && c) = false := by cases b <;> cases c <;> simp_all
    rw [this] at hQ; exact hQ
theorem listNe_ok {i j : Nat} {u v : Value} {b c : Bool} {Q : Value → Shared → Prop} (D : Hold C s.heap led) (R : Rel C X γ led o) (W : Room A nd) (hu : VR C X γ led (.ref i) u) (hv : VR C X γ led (.ref j) v)
    (hb : emptyL o (.ref i) = some b) (hc : emptyL o (.ref j) = some c) (hbc : (b || c) = true) (hQ : Q (.bool (!(b && c))) s) : wpAny (model C.prog C.w) A (compareOp .NotEq u v) Q E s := by
  simp only [VR] at hu hv
  obtain ⟨x, hx, rfl⟩ := hu
  obtain ⟨y, hy, rfl⟩ := hv
  obtain ⟨vs, ob1, m1, o1, e1⟩ := emptyL_ok D R hb hx
  obtain ⟨us, ob2, m2, o2, e2⟩ := emptyL_ok D R hc hy
  have hun : A.units < cLine := by have := W.2.2; omega
  by_cases q : b = c
  · subst q
    have : b = true := by cases b <;> simp_all
    subst this
    have v1 : vs = [] := by simpa using e1
    have v2 : us = [] := by simpa using e2
    subst v1 v2
    exact SeqAt.RcNeAt.lists (e := fun _ => true) (list_at D m1 o1) (list_at D m2 o2) rfl hun (fun j h1 _ => by simp at h1) _ _ _ _ (by simpa using hQ)
  · refine SeqAt.RcNeAt.lists_lengths (list_at D m1 o1) (list_at D m2 o2) (size_ne e1 e2 q) hun _ _ _ _ ?_
    have : (b && c) = false := by cases b <;> cases c <;> simp_all
    rw [this] at hQ; exact hQ
theorem strs_ok : ∀ {xs : List AV} {ls : List Nm} {vs : List Value}, strsA xs = some ls → VRs C X γ led xs vs → ∀ v ∈ vs, ∃ l t, l ∈ ls ∧ v = .str (toS l) t
  | [], ls, vs, h, hv => by cases hv; simp
  | a :: r, ls, vs, h, hv => by
    refine oa h fun l ha h => oa h fun ls' hl hz => ?_
    cases jStr_ok ha
    cases hz
    obtain ⟨v, vs', rfl, ⟨t, rfl⟩, h2⟩ := hv
    intro w hw
    rcases List.mem_cons.mp hw with rfl | hw
    · exact ⟨l, t, .head _, rfl⟩
    · obtain ⟨l', t', h3, h4⟩ := strs_ok hl h2 w hw
      exact ⟨l', t', .tail _ h3, h4⟩
noncomputable def isS (n : Nm) : Value → Bool
  | .str x _ => x == toS n
  | _ => false
theorem any_strs : ∀ {xs : List AV} {ls : List Nm} {vs : List Value} {n : Nm}, strsA xs = some ls → VRs C X γ led xs vs → vs.any (isS n) = dhas ls n
  | [], ls, vs, n, h, hv => by cases hv; cases h; rfl
  | a :: r, ls, vs, n, h, hv => by
    refine oa h fun l ha h => oa h fun ls' hl hz => ?_
    cases jStr_ok ha
    cases hz
    obtain ⟨v, vs', rfl, ⟨t, rfl⟩, h2⟩ := hv
    simp only [List.any_cons, dhas, any_strs hl h2, isS, beq_toS]
noncomputable def inOp (b : Bool) : CmpOp := Bool.rec .In .NotIn b
noncomputable def inNeg (b r : Bool) : Bool := Bool.rec r (!r) b
theorem in_ok {neg : Bool} {a c : AV} {u v : Value} {r : Bool} {Q : Value → Shared → Prop} (K : C.Ok) (D : Hold C s.heap led) (R : Rel C X γ led o) (hu : VR C X γ led a u) (hv : VR C X γ led c v) (h : inA o a c = some r)
    (hQ : ∀ tk, Q (.bool (inNeg neg r)) { s with toks := tk }) : wpAny (model C.prog C.w) A (compareOp (inOp neg) u v) Q E s := by
  refine oa h fun nm hnm h2 => ?_
  cases jStr_ok hnm
  clear h
  have h := h2
  obtain ⟨t, rfl⟩ := vr_str hu
  have dic : ∀ {d : Addr} {es : List DictEntry} {n : Nat} {ks : List Nm} {vs : List Value}, s.heap.get? d = some (dictOf es n) → (d == sysModules) = false → Ents C.w es ks vs → ks.Nodup → (dgetV ks vs nm).isSome = r → wpAny (model C.prog C.w) A (compareOp (inOp neg) (.str (toS nm) t) (.ref d)) Q E s := fun {d es n ks vs} hs hsys he hn e => by
    have hd := (he.dictAt (prog := C.prog) hn hs).dictOf
    rw [← valueAt_kvs] at e
    cases neg
    · refine wpAny_in_of (knd := strKind C.prog C.w) (is_str _ _) hsys hd.mapOf ?_
      rw [e]; exact hQ _
    · refine wpAny_notIn_of (knd := strKind C.prog C.w) (is_str _ _) hsys hd.mapOf ?_
      rw [e]; exact hQ _
  have seq : ∀ {xs : List AV} {vs : List Value} {ls : List Nm}, strsA xs = some ls → VRs C X γ led xs vs → some (dhas ls nm) = some r → (∀ y, y ∈ vs.toArray → SeqAt.EqAt A.in1 s y (.str (toS nm) t) (isS nm y)) ∧ vs.toArray.any (isS nm) = r := fun hl hxs e => by
    cases e
    refine ⟨fun y hy => ?_, by rw [List.any_toArray]; exact any_strs hl hxs⟩
    obtain ⟨l', t', _, rfl⟩ := strs_ok hl hxs y (by simpa using hy)
    exact SeqAt.EqAt.str_str _ _ _ _
  cases c with
  | fdict ks xs =>
    obtain ⟨d, es, n, vs, rfl, hs, he, hn, hxs⟩ := vr_fdict hv
    cases h
    exact dic (hs.get K D) (sys_ne K D hs) he hn (dgetV_isSome he.length.2)
  | fsub ks xs =>
    obtain ⟨d, es, n, ks', vs', us, rfl, hs, he, hn, hp, hxs⟩ := vr_fsub hv
    refine ot h fun hb h => ?_
    cases h
    refine dic (hs.get K D) (sys_ne K D hs) he hn ?_
    have q : (dgetV ks us nm).isSome = true := by rw [dgetV_isSome hp.1]; exact hb
    obtain ⟨u, hu⟩ := Option.isSome_iff_exists.mp q
    rw [hp.2 _ _ hu]; rfl
  | tup xs =>
    obtain ⟨d, vs, n, rfl, hs, hxs⟩ := vr_tup hv
    refine oa h fun ls hl h => ?_
    obtain ⟨he, ea⟩ := seq hl hxs h
    cases neg
    · exact SeqAt.in_tupleAt (isS nm) (tup_at K D hs) he (by rw [ea]; exact hQ s.toks)
    · exact SeqAt.notIn_tupleAt (isS nm) (tup_at K D hs) he (by rw [ea]; exact hQ s.toks)
  | ref i =>
    obtain ⟨d, hi, rfl⟩ := vr_ref hv
    refine oa h fun ob ho h => oe h (fun p hp hz => ?_) fun h => oa h fun xs hx h => oa h fun ls hl hz => ?_
    · obtain ⟨ks, xs, ep⟩ := p
      cases jDct_ok hp
      cases hz
      obtain ⟨es, n, vs, hm, _, he, hn, hxs⟩ := R.has _ _ _ ho hi
      refine dic (D.at_ _ hm) ?_ he hn (dgetV_isSome he.length.2)
      exact led_sys K D hm
    · cases jLst_ok hx
      obtain ⟨vs, ob, hm, hlo, hxs⟩ := R.has _ _ _ ho hi
      obtain ⟨he, ea⟩ := seq hl hxs hz
      cases neg
      · exact SeqAt.in_listAt (isS nm) (list_at D hm hlo.1) he (by rw [ea]; exact hQ s.toks)
      · exact SeqAt.notIn_listAt (isS nm) (list_at D hm hlo.1) he (by rw [ea]; exact hQ s.toks)
  | _ => exact nsM h
end
end
section
section
variable {C : Cfg} {X γ : List Addr} {led : Led} {o : Objs} {A : Around} {s : Shared} {E : Value → Shared → Prop} {nd : Nat} {env : Env} {l : Loc}
theorem cmp_ok {op : CmpOp} {a c : AV} {u v : Value} {r : Bool} {Q : Value → Shared → Prop} (K : C.Ok) (W : Room A nd) (D : Hold C s.heap led) (R : Rel C X γ led o) (hu : VR C X γ led a u) (hv : VR C X γ led c v) (h : cmpA o op a c = some r)
    (hQ : ∀ tk, Q (.bool r) { s with toks := tk }) : wpAny (model C.prog C.w) A (compareOp op u v) Q E s := by
  have int : ∀ {k : Int → Int → Bool}, cmpI a c k = some r → ∃ x y t t', u = .int x t ∧ v = .int y t' ∧ k x y = r := fun {k} h => by
    refine oa h fun x hx h => oa h fun y hy hz => ?_
    cases jInt_ok hx
    cases jInt_ok hy
    obtain ⟨t, rfl⟩ := vr_int hu
    obtain ⟨t', rfl⟩ := vr_int hv
    exact ⟨x, y, t, t', rfl, rfl, Option.some.inj hz⟩
  have is : ∀ {b : Bool}, isA a c = some b → v = .none ∧ plainIs u .none = true ∧ (u == .none) = b := fun {b} h => by
    cases c with
    | none =>
      refine ⟨vr_none hv, ?_⟩
      cases a with
      | none => cases vr_none hu; cases h; exact ⟨rfl, rfl⟩
      | bool b => cases vr_bool hu; cases h; exact ⟨rfl, rfl⟩
      | int i => obtain ⟨t, rfl⟩ := vr_int hu; cases h; exact ⟨rfl, rfl⟩
      | str i => obtain ⟨t, rfl⟩ := vr_str hu; cases h; exact ⟨rfl, rfl⟩
      | tup xs => obtain ⟨x, vs, n, rfl, _⟩ := vr_tup hu; cases h; exact ⟨rfl, rfl⟩
      | ref i => obtain ⟨x, _, rfl⟩ := vr_ref hu; cases h; exact ⟨rfl, rfl⟩
      | fdict ks xs => obtain ⟨x, es, n, vs, rfl, _⟩ := vr_fdict hu; cases h; exact ⟨rfl, rfl⟩
      | finst c ks xs => obtain ⟨x, d, es, n, vs, rfl, _⟩ := vr_finst hu; cases h; exact ⟨rfl, rfl⟩
      | fsub ks xs => obtain ⟨x, es, n, ks', vs', us, rfl, _⟩ := vr_fsub hu; cases h; exact ⟨rfl, rfl⟩
      | _ => exact nsM h
    | _ => exact nsM h
  cases op with
  | Eq =>
    refine oe h (fun i hi h => oe h (fun j hj h => oa h fun b hb h => oa h fun d hd h => ot h fun hbd hz => ?_) fun h => eqTop_ok K D W hu hv h (hQ s.toks)) fun h => eqTop_ok K D W hu hv h (hQ s.toks)
    cases jRef_ok hi
    cases jRef_ok hj
    cases hz
    exact listEq_ok D R W hu hv hb hd hbd (hQ s.toks)
  | NotEq =>
    refine oa h fun b h0 h => ?_
    cases h
    refine oe h0 (fun i hi h => oe h (fun j hj h => oa h fun b hb h => oa h fun d hd h => ot h fun hbd hz => ?_) fun h => neTop_ok K D W hu hv h (hQ s.toks)) fun h => neTop_ok K D W hu hv h (hQ s.toks)
    cases jRef_ok hi
    cases jRef_ok hj
    cases hz
    exact listNe_ok D R W hu hv hb hd hbd (hQ s.toks)
  | Lt => obtain ⟨x, y, t, t', rfl, rfl, rfl⟩ := int h; exact lt_int (hQ s.toks)
  | LtE => obtain ⟨x, y, t, t', rfl, rfl, rfl⟩ := int h; exact le_int (hQ s.toks)
  | Gt => obtain ⟨x, y, t, t', rfl, rfl, rfl⟩ := int h; exact gt_int (hQ s.toks)
  | GtE => obtain ⟨x, y, t, t', rfl, rfl, rfl⟩ := int h; exact ge_int (hQ s.toks)
  | In => exact in_ok (neg := false) K D R hu hv h hQ
  | NotIn =>
    refine oa h fun b hb h => ?_
    cases h
    exact in_ok (neg := true) K D R hu hv hb hQ
  | Is =>
    obtain ⟨rfl, h1, h2⟩ := is h
    exact wpAny_is_plain h1 (by rw [h2]; exact hQ s.toks)
  | IsNot =>
    refine oa h fun b hb h => ?_
    cases h
    obtain ⟨rfl, h1, h2⟩ := is hb
    exact wpAny_isNot_plain h1 (by rw [h2]; exact hQ s.toks)
theorem At.fr {h : Heap} (D : At C env X γ led l o h) : ∃ m, Fr C.H env.locals h m := by
  obtain ⟨oL, m, h1, h2, _⟩ := D.loc
  exact ⟨m, h2.ns (D.hold.at_ _ h1), D.hold.keep, D.hold.up h1 h2.noseq⟩
theorem toS_append (x y : Nm) : toS x ++ toS y = toS (x ++ y) := by
  show PySem.Str.append (toS x) (toS y) = _
  unfold PySem.Str.append toS
  simp
theorem bits_small {b : Int} (h : -(2 ^ 60) < b ∧ b < 2 ^ 60) : Builtin.Int.intBits b ≤ 64 := intBits_le_64 (by omega) (by omega)
theorem add_ok {a b r : AV} {u v : Value} {Q : Value → Shared → Prop} (K : C.Ok) (V : EnvOk env X) (D : At C env X γ led l o s.heap) (hu : VR C X γ led a u) (hv : VR C X γ led b v) (h : addA a b = some r)
    (hQ : ∀ res h' tk led', At C env X γ led' l o h' → Ext [] γ led γ led' → VR C X γ led' r res → Q res { s with heap := h', toks := tk }) : wpAny (model C.prog C.w) A (binaryOp .Add u v) Q E s := by
  refine oe h (fun x hx h => oa h fun y hy hz => ?_) fun h => oe h (fun x hx h => oa h fun y hy h => oi h fun hb hz => ?_) fun h => oa h fun xs hx h => oa h fun ys hy h => oi h fun hb hz => ?_
  · cases jInt_ok hx
    cases jInt_ok hy
    obtain ⟨t, rfl⟩ := vr_int hu
    obtain ⟨t', rfl⟩ := vr_int hv
    cases hz
    exact PyProof.Rows.add_int (hQ _ _ _ _ D .refl ⟨_, rfl⟩)
  · cases jStr_ok hx
    cases jStr_ok hy
    obtain ⟨t, rfl⟩ := vr_str hu
    obtain ⟨t', rfl⟩ := vr_str hv
    cases hz
    refine PyProof.Rows.add_str (fun t' tk => hQ _ _ _ _ D .refl ⟨t', ?_⟩) ?_
    · show Value.str (toS x ++ toS y) t' = _
      rw [toS_append]
    · simp only [toS, Str.length, List.size_toArray]; exact Nat.le_trans hb (by decide)
  · cases jTup_ok hx
    cases jTup_ok hy
    obtain ⟨x, vs, n, rfl, hs, hxs⟩ := vr_tup hu
    obtain ⟨y, us, n', rfl, hs', hys⟩ := vr_tup hv
    cases hz
    obtain ⟨m, F⟩ := D.fr
    by_cases e1 : vs = []
    · subst e1
      have hl := hxs.length
      have hx : xs = [] := by cases xs with | nil => rfl | cons => simp at hl
      subst hx
      have q := hQ (.ref y) s.heap s.toks led D .refl ⟨y, us, n', rfl, hs', hys⟩
      exact add_tuples (news := []) F News.nil (tup_at K D.hold hs) (tup_at K D.hold hs') (fun _ => q) (fun e => absurd rfl e) (fun e => absurd rfl e) (by rw [hys.length]; simp only [List.length_nil]; simp only [List.length_nil] at hb; exact Nat.le_trans hb (by decide))
    · by_cases e2 : us = []
      · subst e2
        have hl := hys.length
        have hx : ys = [] := by cases ys with | nil => rfl | cons => simp at hl
        subst hx
        have q := hQ (.ref x) s.heap s.toks led D .refl ⟨x, vs, n, rfl, hs, by rw [List.append_nil]; exact hxs⟩
        exact add_tuples (news := []) F News.nil (tup_at K D.hold hs) (tup_at K D.hold hs') (fun e => absurd e e1) (fun _ _ => q) (fun _ e => absurd rfl e) (by rw [hxs.length]; simp only [List.length_nil]; simp only [List.length_nil] at hb; exact Nat.le_trans hb (by decide))
      · refine P.add_tuple (hs.get K D.hold) (hs'.get K D.hold) (by simpa using e1) (by simpa using e2) ?_ (by simp only [List.size_toArray]; rw [hxs.length, hys.length]; exact Nat.le_trans hb (by decide))
        have eo : ({ cls := Value.type "tuple", data := .seq (vs.toArray ++ us.toArray) } : Obj) = tupO (vs ++ us) 0 := by simp
        rw [eo]
        obtain ⟨D2, e2, n1, n2, n3⟩ := D.alloc (ob := tupO (vs ++ us) 0) K V (fun b o q => Heap.get?_push_of_some _ q) (Nat.le_refl _) (Heap.get?_push_size _ rfl)
        exact hQ _ _ s.toks _ D2 e2 ⟨_, vs ++ us, 0, rfl, .inr ⟨.head _, n1, n2⟩, VRs.ext e2 (by simp) _ _ (hxs.append hys)⟩
theorem bin_ok {op : Operator} {a b r : AV} {u v : Value} {Q : Value → Shared → Prop} (K : C.Ok) (V : EnvOk env X) (D : At C env X γ led l o s.heap) (hu : VR C X γ led a u) (hv : VR C X γ led b v) (h : binA op a b = some r)
    (hQ : ∀ res h' tk led', At C env X γ led' l o h' → Ext [] γ led γ led' → VR C X γ led' r res → Q res { s with heap := h', toks := tk }) : wpAny (model C.prog C.w) A (binaryOp op u v) Q E s := by
  have int : ∀ {k : Int → Int → Option AV}, int2 a b k = some r → ∃ x y t t', u = .int x t ∧ v = .int y t' ∧ k x y = some r := fun {k} h => by
    refine oa h fun x hx h => oa h fun y hy hz => ?_
    cases jInt_ok hx
    cases jInt_ok hy
    obtain ⟨t, rfl⟩ := vr_int hu
    obtain ⟨t', rfl⟩ := vr_int hv
    exact ⟨x, y, t, t', rfl, rfl, hz⟩
  have q0 : ∀ i, r = .int i → Q (.int i s.toks) { s with toks := s.toks + 1 } := fun i e => hQ (.int i s.toks) s.heap (s.toks + 1) led D .refl (by rw [e]; exact ⟨_, rfl⟩)
  delta binA at h
  cases op with
  | Add => exact add_ok K V D hu hv h hQ
  | Sub =>
    obtain ⟨x, y, t, t', rfl, rfl, h⟩ := int h
    cases h
    exact PyProof.Rows.sub_int (q0 _ rfl)
  | Mult =>
    obtain ⟨x, y, t, t', rfl, rfl, h⟩ := int h
    refine oi h fun hb h => ?_
    cases h
    exact PyProof.Rows.mul_int (q0 _ rfl) (IntMulOk.of_right (bits_small hb))
  | Mod =>
    obtain ⟨x, y, t, t', rfl, rfl, h⟩ := int h
    refine oi h fun hb h => ?_
    cases h
    exact mod_int' (by omega) (q0 _ rfl)
  | FloorDiv =>
    obtain ⟨x, y, t, t', rfl, rfl, h⟩ := int h
    refine oi h fun hb h => ?_
    cases h
    exact floordiv_int (by omega) (q0 _ rfl) (.inl (PyProof.noPylong_small (by omega)))
  | Pow =>
    obtain ⟨x, y, t, t', rfl, rfl, h⟩ := int h
    refine oa h fun n hn h => oi h fun hb hz => ?_
    cases jNat_ok hn
    cases hz
    refine PyProof.Rows.pow_int_small (n := Int.ofNat n) (nat_0 n) ?_ ?_ (q0 _ rfl)
    · show (n : Int) ≤ 1000000; omega
    · omega
  | _ => exact nsM h
structure ClsOk (C : Cfg) (fl : Nat → List Nm) : Prop where
  get : ∀ c n, hasN (fl c) n = true → findIn C.K (.ref (C.cls c)) (toS n) = some none ∧ plainGet C.K (C.cls c) (toS n) = true ∧ hasDictIn C.K (C.cls c) = true
  set : ∀ c n, hasN (fl c) n = true → findIn C.K (.ref (C.cls c)) "__setattr__" = some (some (.builtin "object.__setattr__")) ∧ plainOver C.K (C.cls c) = true ∧ takerIn C.K (C.cls c) (toS n) = some none
theorem getL_of {w : World} : ∀ {es : List DictEntry} {ks : List Nm} {vs : List Value} {n : Nm}, Ents w es ks vs → getL (toS n) es = some (dgetV ks vs n)
  | [], _, _, n, h => by obtain ⟨rfl, rfl⟩ := h; rfl
  | e :: es, _, _, n, h => by
    obtain ⟨k, ks', v, vs', rfl, rfl, h1, ⟨t, h2⟩, h3, r⟩ := h
    have ih := @getL_of w es ks' vs' n r
    unfold getL at ih ⊢
    have e1 : e.key.isStr (toS n) = eqN k n := by rw [h2]; show (toS k == toS n) = _; exact beq_toS k n
    have e2 : e.refKey = false := by simp [DictEntry.refKey, h2]
    simp only [List.find?_cons, e1, List.any_cons, e2, Bool.false_or, dgetV, eqN_dec]
    cases q : eqN k n with
    | true => simp [h3]
    | false => exact ih
theorem handed_ok {r : AV} {v : Value} (h : VR C X γ led r v) (hr : ∀ i, r ≠ .g i) (ht : r ≠ .top) : handedIn v = true := by
  cases r with
  | none => simp only [VR] at h; subst h; rfl
  | bool b => simp only [VR] at h; subst h; rfl
  | int i => simp only [VR] at h; obtain ⟨t, rfl⟩ := h; rfl
  | str i => simp only [VR] at h; obtain ⟨t, rfl⟩ := h; rfl
  | tup xs => simp only [VR] at h; obtain ⟨x, vs, n, rfl, _⟩ := h; rfl
  | ref i => simp only [VR] at h; obtain ⟨x, _, rfl⟩ := h; rfl
  | g i => exact absurd rfl (hr i)
  | fdict ks xs => simp only [VR] at h; obtain ⟨x, es, n, vs, rfl, _⟩ := h; rfl
  | finst c ks xs => simp only [VR] at h; obtain ⟨x, d, es, n, vs, rfl, _⟩ := h; rfl
  | fsub ks xs => simp only [VR] at h; obtain ⟨x, es, n, ks', vs', us, rfl, _⟩ := h; rfl
  | top => exact absurd rfl ht
theorem handA_eq {q : Option AV} {r : AV} (h : handA q = some r) : q = some r ∧ (∀ i, r ≠ .g i) ∧ r ≠ .top := by
  refine oa h fun v hv h => ?_
  subst hv
  cases v with
  | g i => exact nsM h
  | top => exact nsM h
  | _ => cases h; exact ⟨rfl, fun i e => AV.noConfusion e, fun e => AV.noConfusion e⟩
theorem attr_at {fl : Nat → List Nm} {a r : AV} {n : Nm} {v : Value} {h : Heap} (K : C.Ok) (D : Hold C h led) (R : Rel C X γ led o) (hv : VR C X γ led a v) (e : attrA fl o a n = some r) :
    ∃ c x dx es k u, v = .ref x ∧ hasN (fl c) n = true ∧ W.InstAt h x (instObj (C.cls c) dx) (C.cls c) (some (dictOf es k)) ∧ getL (toS n) es = some (some u) ∧ VR C X γ led r u ∧ handedIn u = true := by
  delta attrA at e
  cases a with
  | finst c ks xs =>
    obtain ⟨x, dx, es, k, vs, rfl, h1, h2, h3, h4, h5⟩ := vr_finst hv
    refine ot e fun hf e => ?_
    obtain ⟨e1, e2, e3⟩ := handA_eq e
    obtain ⟨u, hu, hr⟩ := dget_rel e1 h5
    exact ⟨c, x, dx, es, k, u, rfl, hf, ⟨h1.get K D, rfl, rfl, h2.get K D⟩, by rw [getL_of h3, hu], hr, handed_ok hr e2 e3⟩
  | ref i =>
    obtain ⟨x, hx, rfl⟩ := vr_ref hv
    refine oa e fun oc ho e => ob e fun c d hc e => ot e fun hf e => oa e fun od hd e => ob e fun ks p hp ez => ?_
    cases jInst_ok hc
    cases jDct_ok (xs := p.1) (ep := p.2) hp
    obtain ⟨dx, hdx, hm⟩ := R.has _ _ _ ho hx
    obtain ⟨es, k, vs, hm2, _, h3, h4, h5⟩ := R.has _ _ _ hd hdx
    obtain ⟨e1, e2, e3⟩ := handA_eq ez
    obtain ⟨u, hu, hr⟩ := dget_rel e1 h5
    exact ⟨c, x, dx, es, k, u, rfl, hf, ⟨D.at_ _ hm, rfl, rfl, D.at_ _ hm2⟩, by rw [getL_of h3, hu], hr, handed_ok hr e2 e3⟩
  | _ => exact nsM e
theorem attr_ok {fl : Nat → List Nm} {expr : Bool} {a r : AV} {n : Nm} {v : Value} {Q : Value → Shared → Prop} (K : C.Ok) (Y : ClsOk C fl) (D : At C env X γ led l o s.heap) (hv : VR C X γ led a v) (h : attrA fl o a n = some r)
    (hQ : ∀ res tk, VR C X γ led r res → Q res { s with toks := tk }) : wpAny (model C.prog C.w) A (getAttr v (toS n) expr) Q E s := by
  obtain ⟨c, x, dx, es, k, u, rfl, hf, I, hl, hr, hh⟩ := attr_at K D.hold D.rel hv h
  obtain ⟨y1, y2, y3⟩ := Y.get c n hf
  obtain ⟨m, F⟩ := D.fr
  exact get_own F K.k I y2 y3 y1 rfl hl hh (hQ u _ hr)
end
end
section
noncomputable def plainE (e : PySem.Expr) : Bool := @PySem.Expr.casesOn (fun _ => Bool) e (fun _ _ _ => true) (fun _ _ _ => false) (fun _ _ _ _ => true) (fun _ _ _ => true) (fun _ _ _ _ => false) (fun _ _ _ _ => true) (fun _ _ _ => true) (fun _ _ _ => false) (fun _ _ _ _ => true) (fun _ _ _ _ => false) (fun _ _ _ _ _ => false) (fun _ _ _ _ => false) (fun _ _ => false) (fun _ _ => false) (fun _ _ => false) (fun _ _ _ _ => true) (fun _ _ _ _ => true) (fun _ _ _ _ => false) (fun _ _ => false) (fun _ _ _ => true) (fun _ _ _ => true) (fun _ _ _ => true) (fun _ _ => false) (fun _ _ => true) (fun _ _ => true) (fun _ _ _ => true) (fun _ _ _ _ => false)
noncomputable def notCall (e : PySem.Expr) : Bool := @PySem.Expr.casesOn (fun _ => Bool) e (fun _ _ _ => true) (fun _ _ _ => true) (fun _ _ _ _ => true) (fun _ _ _ => true) (fun _ _ _ _ => true) (fun _ _ _ _ => true) (fun _ _ _ => true) (fun _ _ _ => true) (fun _ _ _ _ => true) (fun _ _ _ _ => true) (fun _ _ _ _ _ => true) (fun _ _ _ _ => true) (fun _ _ => true) (fun _ _ => true) (fun _ _ => true) (fun _ _ _ _ => true) (fun _ _ _ _ => false) (fun _ _ _ _ => true) (fun _ _ => true) (fun _ _ _ => true) (fun _ _ _ => true) (fun _ _ _ => true) (fun _ _ => true) (fun _ _ => true) (fun _ _ => true) (fun _ _ _ => true) (fun _ _ _ _ => true)
theorem star_cons {e : PySem.Expr} {r : List PySem.Expr} {env : Env} (h : plainE e = true) : starEach (e :: r) env = (false, eval e env) :: starEach r env := by
  cases e <;> first | rfl | exact nfB h
theorem folded_plain {e : PySem.Expr} {env : Env} (h : plainE e = true) (x : Value) : foldedSetIterable e env x = pure x := by
  cases e <;> first | rfl | exact nfB h
theorem marks_plain {e : PySem.Expr} (h : plainE e = true) (op : CmpOp) : behindInMarks op e = false := by
  cases e <;> first | rfl | exact nfB h
theorem sub_plain {e : PySem.Expr} (h : plainE e = true) (a b : Value) : subscripted e false a b = operate [a, b] (getItem a b) := by
  cases e <;> first | rfl | exact nfB h
theorem attr_eq {value : PySem.Expr} {attr : PySem.Str} {pos : Pos} {env : Env} (h : notCall value = true) : eval (.Attribute value attr pos) env = (do
    let o ← eval value env
    standAt pos.atName
    let r ← holding [o] (getAttr o attr true)
    letTemporaryGo value o r
    pure r) := by
  cases value <;> first | rfl | exact nfB h
noncomputable def argTs (env : Env) (es : List PySem.Expr) : List (Bool × Sem Value) := es.map fun e => (false, eval e env)
theorem args_eq {pos : Pos} {env : Env} : ∀ {es : List PySem.Expr}, (es.all plainE) = true → backTo pos (starEach es env) = argTs env es
  | [], _ => rfl
  | e :: r, h => by
    simp only [List.all_cons, Bool.and_eq_true] at h
    rw [star_cons h.1]
    have ih := @args_eq pos env r h.2
    simp only [backTo, argTs, List.map_cons] at ih ⊢
    rw [ih]
    rfl
section
variable {C : Cfg} {nd : Nat} {env : Env} {X : List Addr} {l : Loc} {o o' o₁ o₂ o₃ : Objs} {r r₁ r₂ : AV}
theorem se_sub {value slice : PySem.Expr} {pos : Pos} {v j : AV} (K : C.Ok) (hs : plainE slice = true) (h1 : SE C nd env X (eval value env) l o v o₁) (h2 : SE C nd env X (eval slice env) l o₁ j o₂) (h : subA o₂ v j = some r) :
    SE C nd env X (eval (.Subscript value slice pos) env) l o r o₂ := by
  intro A s γ led Q E R D hQ
  refine Subscript_ (h1 A s γ led _ E R D fun u h' tk γ' led' D' e' hu => ?_)
  refine h2 A _ γ' led' _ E R D' fun w h'' tk' γ'' led'' D'' e'' hw => ?_
  exact sub_ok K D''.hold D''.rel (VR.ext e'' (by simp) _ _ hu) hw h (sub_plain hs) fun res tk2 hr => hQ res h'' tk2 γ'' led'' D'' (e'.trans e'') hr
theorem se_attr {fl : Nat → List Nm} {value : PySem.Expr} {n : Nm} {pos : Pos} {v : AV} (K : C.Ok) (Y : ClsOk C fl) (hc : notCall value = true) (h1 : SE C nd env X (eval value env) l o v o₁) (h : attrA fl o₁ v n = some r) :
    SE C nd env X (eval (.Attribute value (toS n) pos) env) l o r o₁ := by
  intro A s γ led Q E R D hQ
  refine Attribute_any_ (h1 A s γ led _ E R D fun u h' tk γ' led' D' e' hu => ?_) (attr_eq hc)
  exact attr_ok K Y D' hu h fun res tk2 hr => hQ res h' tk2 γ' led' D' e' hr
theorem se_cmp {a b : PySem.Expr} {op : CmpOp} {pos : Pos} {u v : AV} {c : Bool} (K : C.Ok) (hb : plainE b = true) (h1 : SE C nd env X (eval a env) l o u o₁) (h2 : SE C nd env X (eval b env) l o₁ v o₂) (h : cmpA o₂ op u v = some c) :
    SE C nd env X (eval (.Compare a [op] [b] pos) env) l o (.bool c) o₂ := by
  intro A s γ led Q E R D hQ
  refine wpAny_Compare1 (h1 A s γ led _ E R D fun x h' tk γ' led' D' e' hu => ?_) (marks_plain hb op)
  refine h2 A _ γ' led' _ E R D' fun y h'' tk' γ'' led'' D'' e'' hv => ?_
  exact cmp_ok K R D''.hold D''.rel (VR.ext e'' (by simp) _ _ hu) hv h fun tk2 => hQ _ h'' tk2 γ'' led'' D'' (e'.trans e'') (by simp only [VR])
theorem st_cmp {a b : PySem.Expr} {op : CmpOp} {pos : Pos} {u v : AV} {c : Bool} {whole : Sem Value} (K : C.Ok) (hb : plainE b = true) (h1 : SE C nd env X (eval a env) l o u o₁) (h2 : SE C nd env X (eval b env) l o₁ v o₂) (h : cmpA o₂ op u v = some c) :
    ST C nd env X (isTrue (.Compare a [op] [b] pos) env whole) l o c o₂ := by
  intro A s γ led Q E R D hQ
  refine wpAny_isTrue_Compare1 (h1 A s γ led _ E R D fun x h' tk γ' led' D' e' hu => ?_) (marks_plain hb op)
  refine h2 A _ γ' led' _ E R D' fun y h'' tk' γ'' led'' D'' e'' hv => ?_
  refine cmp_ok K R D''.hold D''.rel (VR.ext e'' (by simp) _ _ hu) hv h fun tk2 => wpAny_truthy_bool ?_
  exact hQ h'' tk2 γ'' led'' D'' (e'.trans e'')
theorem st_plain {e : PySem.Expr} {whole : Sem Value} {b : Bool} (K : C.Ok) (h1 : SE C nd env X whole l o r o₁) (h : truthyA r = some b)
    (he : isTrue e env whole = (do let v ← whole; standAt e.pos; holding [v] (truthy v))) : ST C nd env X (isTrue e env whole) l o b o₁ := by
  intro A s γ led Q E R D hQ
  refine isTrue_plain (h1 A s γ led _ E R D fun x h' tk γ' led' D' e' hu => ?_) he
  exact truthy_ok K D'.hold hu h fun tk2 => hQ h' tk2 γ' led' D' e'
theorem se_bin {a b : PySem.Expr} {op : Operator} {pos : Pos} {u v : AV} (K : C.Ok) (V : EnvOk env X) (h1 : SE C nd env X (eval a env) l o u o₁) (h2 : SE C nd env X (eval b env) l o₁ v o₂) (h : binA op u v = some r) :
    SE C nd env X (eval (.BinOp a op b pos) env) l o r o₂ := by
  intro A s γ led Q E R D hQ
  refine wpAny_BinOp (h1 A s γ led _ E R D fun x h' tk γ' led' D' e' hu => ?_)
  refine h2 A _ γ' led' _ E R D' fun y h'' tk' γ'' led'' D'' e'' hv => ?_
  exact bin_ok K V D'' (VR.ext e'' (by simp) _ _ hu) hv h fun res h3 tk3 led3 D3 e3 hr => hQ res h3 tk3 γ'' led3 D3 ((e'.trans e'').trans e3) hr
theorem se_not {a : PySem.Expr} {pos : Pos} {b : Bool} {v : AV} (K : C.Ok) (h1 : SE C nd env X (eval a env) l o v o₁) (h : truthyA v = some b) :
    SE C nd env X (eval (.UnaryOp .Not a pos) env) l o (.bool (!b)) o₁ := by
  intro A s γ led Q E R D hQ
  show wpAny _ A (do let v ← eval a env; standAt pos; holding [v] (unaryOp .Not v)) Q E s
  refine wpAny_bind (h1 A s γ led _ E R D fun x h' tk γ' led' D' e' hu => ?_)
  refine wpAny_bind (wpAny_standAt (wpAny_holding (not_of ?_)))
  refine truthy_ok K D'.hold hu h fun tk2 => ?_
  exact hQ _ h' tk2 γ' led' D' e' (by simp only [VR])
theorem st_not {a : PySem.Expr} {pos : Pos} {b : Bool} {whole : Sem Value} (h1 : ST C nd env X (isTrue a env (eval a env)) l o b o₁) : ST C nd env X (isTrue (.UnaryOp .Not a pos) env whole) l o (!b) o₁ := by
  intro A s γ led Q E R D hQ
  exact isTrue_not (h1 A s γ led _ E R D fun h' tk γ' led' D' e' => hQ h' tk γ' led' D' e')
theorem se_neg {a : PySem.Expr} {pos : Pos} {i : Int} (h1 : SE C nd env X (eval a env) l o (.int i) o₁) : SE C nd env X (eval (.UnaryOp .USub a pos) env) l o (.int (-i)) o₁ := by
  intro A s γ led Q E R D hQ
  show wpAny _ A (do let v ← eval a env; standAt pos; holding [v] (unaryOp .USub v)) Q E s
  refine wpAny_bind (h1 A s γ led _ E R D fun x h' tk γ' led' D' e' hu => ?_)
  simp only [VR] at hu
  obtain ⟨t, rfl⟩ := hu
  refine wpAny_bind (wpAny_standAt (wpAny_holding (neg_int ?_)))
  exact hQ _ h' _ γ' led' D' e' ⟨_, rfl⟩
theorem se_ife {t a b : PySem.Expr} {pos : Pos} {c : Bool} (h1 : ST C nd env X (isTrue t env (eval t env)) l o c o₁) (h2 : c = true → SE C nd env X (eval a env) l o₁ r o₂) (h3 : c = false → SE C nd env X (eval b env) l o₁ r o₂) :
    SE C nd env X (eval (.IfExp t a b pos) env) l o r o₂ := by
  intro A s γ led Q E R D hQ
  show wpAny _ A (do if ← isTrue t env (eval t env) then eval a env else eval b env) Q E s
  refine wpAny_bind (h1 A s γ led _ E R D fun h' tk γ' led' D' e' => ?_)
  cases c with
  | true => exact h2 rfl A _ γ' led' _ E R D' fun v h'' tk' γ'' led'' D'' e'' hv => hQ v h'' tk' γ'' led'' D'' (e'.trans e'') hv
  | false => exact h3 rfl A _ γ' led' _ E R D' fun v h'' tk' γ'' led'' D'' e'' hv => hQ v h'' tk' γ'' led'' D'' (e'.trans e'') hv
theorem st_ife {t a b : PySem.Expr} {pos : Pos} {c d : Bool} {whole : Sem Value} (h1 : ST C nd env X (isTrue t env (eval t env)) l o c o₁) (h2 : c = true → ST C nd env X (isTrue a env (eval a env)) l o₁ d o₂)
    (h3 : c = false → ST C nd env X (isTrue b env (eval b env)) l o₁ d o₂) : ST C nd env X (isTrue (.IfExp t a b pos) env whole) l o d o₂ := by
  intro A s γ led Q E R D hQ
  show wpAny _ A (do if ← isTrue t env (eval t env) then isTrue a env (eval a env) else isTrue b env (eval b env)) Q E s
  refine wpAny_bind (h1 A s γ led _ E R D fun h' tk γ' led' D' e' => ?_)
  cases c with
  | true => exact h2 rfl A _ γ' led' _ E R D' fun h'' tk' γ'' led'' D'' e'' => hQ h'' tk' γ'' led'' D'' (e'.trans e'')
  | false => exact h3 rfl A _ γ' led' _ E R D' fun h'' tk' γ'' led'' D'' e'' => hQ h'' tk' γ'' led'' D'' (e'.trans e'')
noncomputable def SB (C : Cfg) (nd : Nat) (env : Env) (X : List Addr) (pos : Pos) (op : BoolOp) (ts : List (Sem Value)) (l : Loc) (o : Objs) (r : AV) (o' : Objs) : Prop := SE C nd env X (boolOp pos op ts) l o r o'
theorem sb_one {pos : Pos} {op : BoolOp} {t : Sem Value} (h : SE C nd env X t l o r o₁) : SB C nd env X pos op [t] l o r o₁ := h
theorem sb_more {pos : Pos} {op : BoolOp} {t t2 : Sem Value} {ts : List (Sem Value)} {v : AV} {b : Bool} (K : C.Ok) (h1 : SE C nd env X t l o v o₁) (hb : truthyA v = some b)
    (h2 : (match op with | .And => b = false | .Or => b = true) → r = v ∧ o₂ = o₁) (h3 : (match op with | .And => b = true | .Or => b = false) → SB C nd env X pos op (t2 :: ts) l o₁ r o₂) : SB C nd env X pos op (t :: t2 :: ts) l o r o₂ := by
  intro A s γ led Q E R D hQ
  unfold boolOp
  refine wpAny_bind (h1 A s γ led _ E R D fun x h' tk γ' led' D' e' hu => ?_)
  refine wpAny_bind (wpAny_standAt (wpAny_bind (wpAny_holding (truthy_ok K D'.hold hu hb fun tk2 => ?_))))
  cases op <;> cases b
  · obtain ⟨rfl, rfl⟩ := h2 rfl
    exact wpAny_pure (hQ x h' tk2 γ' led' D' e' hu)
  · exact h3 rfl A _ γ' led' _ E R D' fun v h'' tk' γ'' led'' D'' e'' hv => hQ v h'' tk' γ'' led'' D'' (e'.trans e'') hv
  · exact h3 rfl A _ γ' led' _ E R D' fun v h'' tk' γ'' led'' D'' e'' hv => hQ v h'' tk' γ'' led'' D'' (e'.trans e'') hv
  · obtain ⟨rfl, rfl⟩ := h2 rfl
    exact wpAny_pure (hQ x h' tk2 γ' led' D' e' hu)
theorem st_all_nil {op : BoolOp} : ST C nd env X (allTrue op [] env) l o (op == .And) o := by
  intro A s γ led Q E R D hQ
  exact wpAny_pure (hQ s.heap s.toks γ led D .refl)
theorem st_all_more {op : BoolOp} {e : PySem.Expr} {es : List PySem.Expr} {b c : Bool} (h1 : ST C nd env X (isTrue e env (eval e env)) l o b o₁)
    (h2 : (match op with | .And => b = false | .Or => b = true) → c = b ∧ o₂ = o₁) (h3 : (match op with | .And => b = true | .Or => b = false) → ST C nd env X (allTrue op es env) l o₁ c o₂) :
    ST C nd env X (allTrue op (e :: es) env) l o c o₂ := by
  intro A s γ led Q E R D hQ
  unfold allTrue
  refine wpAny_bind (h1 A s γ led _ E R D fun h' tk γ' led' D' e' => ?_)
  cases op <;> cases b
  · obtain ⟨rfl, rfl⟩ := h2 rfl
    exact wpAny_pure (hQ h' tk γ' led' D' e')
  · exact h3 rfl A _ γ' led' _ E R D' fun h'' tk' γ'' led'' D'' e'' => hQ h'' tk' γ'' led'' D'' (e'.trans e'')
  · exact h3 rfl A _ γ' led' _ E R D' fun h'' tk' γ'' led'' D'' e'' => hQ h'' tk' γ'' led'' D'' (e'.trans e'')
  · obtain ⟨rfl, rfl⟩ := h2 rfl
    exact wpAny_pure (hQ h' tk γ' led' D' e')
theorem st_bool {op : BoolOp} {es : List PySem.Expr} {pos : Pos} {c : Bool} {whole : Sem Value} (h : ST C nd env X (allTrue op es env) l o c o₁) : ST C nd env X (isTrue (.BoolOp op es pos) env whole) l o c o₁ := h
theorem se_bool {op : BoolOp} {es : List PySem.Expr} {pos : Pos} (h : SB C nd env X pos op (evalEach es env) l o r o₁) : SE C nd env X (eval (.BoolOp op es pos) env) l o r o₁ := h
theorem se_sl {value : PySem.Expr} {n k : Nat} {pos p1 p2 : Pos} {t : Nm} (K : C.Ok) (V : EnvOk env X) (h1 : SE C nd env X (eval value env) l o (.str t) o₁) (hl : t.length < 1000) (h : PySem.Txt.slice (toS t) none (some (n : Int)) = toS (t.take n)) :
    SE C nd env X (eval (.Subscript value (.Slice none (some (.Constant (.int (n : Int)) k p1)) none p2) pos) env) l o (.str (t.take n)) o₁ := by
  intro A s γ led Q E R D hQ
  refine Subscript_ (h1 A s γ led _ E R D fun u h' tk γ' led' D' e' hu => ?_)
  simp only [VR] at hu
  obtain ⟨t', rfl⟩ := hu
  show wpAny _ A (do
    let l ← valueOrNone none
    let u ← holding [l] (valueOrNone (some (constValue env (.int (n : Int)))))
    let s ← holding [l, u] (valueOrNone none)
    newFields "slice" [l, u, s]) _ E _
  refine wpAny_bind (wpAny_pure (wpAny_bind (wpAny_holding (wpAny_mkInt (wpAny_bind (wpAny_holding (wpAny_pure ?_)))))))
  refine wpAny_newObj_type ?_ (by show (3 : Nat) ≤ sizeLine + 2; decide)
  obtain ⟨D2, e2, n1, n2, n3⟩ := D'.alloc (ob := { cls := .type "slice", data := .fields #[.none, .int (n : Int) tk, .none] }) K V (fun b o q => Heap.get?_push_of_some _ q) (Nat.le_refl _) (Heap.get?_push_size _ rfl)
  refine tail_of_ItemOn (SBH.sliceItem_ns (s := ⟨h', s.gens, s.drawn, tk + 1, s.os⟩) (P := fun H => ∀ b o, h'.get? b = some o → H.get? b = some o) (fun h2 ob hp b o e => Heap.get?_push_of_some _ (hp b o e)) (fun _ _ e => e) (fun h2 t2 k2 hp => ?_) (by simp only [toS, Str.length, List.size_toArray]; exact Nat.le_trans (Nat.le_of_lt hl) (by decide)))
    rfl (by intro r; cases value <;> rfl)
  rw [h]
  have D3 : At C env X γ' led' l o₁ h2 := D'.ext V .refl (D'.hold.grow hp) D'.rel
  exact hQ _ h2 k2 γ' led' D3 e' ⟨_, rfl⟩
end
end
section
section
variable {C : Cfg} {X X' γ γ' : List Addr} {led led' : Led}
mutual
theorem VR.map (hS : ∀ a o, Stb C X γ led a o → Stb C X' γ' led' a o) (hγ : ∀ (i : Nat) (a : Addr), γ[i]? = some a → γ'[i]? = some a) : ∀ (x : AV) (v : Value), VR C X γ led x v → VR C X' γ' led' x v
  | .none, v, h => h
  | .bool b, v, h => h
  | .int i, v, h => h
  | .str l, v, h => h
  | .tup xs, v, h => by
    simp only [VR] at h ⊢
    obtain ⟨a, vs, n, h1, h2, h3⟩ := h
    exact ⟨a, vs, n, h1, hS _ _ h2, VRs.map hS hγ xs vs h3⟩
  | .ref i, v, h => by
    simp only [VR] at h ⊢
    obtain ⟨a, h1, h2⟩ := h
    exact ⟨a, hγ _ _ h1, h2⟩
  | .g i, v, h => h
  | .fdict ks xs, v, h => by
    simp only [VR] at h ⊢
    obtain ⟨a, es, n, vs, h1, h2, h3, h4, h5⟩ := h
    exact ⟨a, es, n, vs, h1, hS _ _ h2, h3, h4, VRs.map hS hγ xs vs h5⟩
  | .finst c ks xs, v, h => by
    simp only [VR] at h ⊢
    obtain ⟨a, d, es, n, vs, h1, h2, h2', h3, h4, h5⟩ := h
    exact ⟨a, d, es, n, vs, h1, hS _ _ h2, hS _ _ h2', h3, h4, VRs.map hS hγ xs vs h5⟩
  | .fsub ks xs, v, h => by
    simp only [VR] at h ⊢
    obtain ⟨a, es, n, ks', vs', us, h1, h2, h3, h4, h5, h6⟩ := h
    exact ⟨a, es, n, ks', vs', us, h1, hS _ _ h2, h3, h4, h5, VRs.map hS hγ xs us h6⟩
  | .top, v, h => trivial
theorem VRs.map (hS : ∀ a o, Stb C X γ led a o → Stb C X' γ' led' a o) (hγ : ∀ (i : Nat) (a : Addr), γ[i]? = some a → γ'[i]? = some a) : ∀ (xs : List AV) (vs : List Value), VRs C X γ led xs vs → VRs C X' γ' led' xs vs
  | [], vs, h => h
  | x :: xs, vs, h => by
    simp only [VRs] at h ⊢
    obtain ⟨v, vs', h1, h2, h3⟩ := h
    exact ⟨v, vs', h1, VR.map hS hγ x v h2, VRs.map hS hγ xs vs' h3⟩
end
theorem ObjIs.map (hS : ∀ a o, Stb C X γ led a o → Stb C X' γ' led' a o) (hγ : ∀ (i : Nat) (a : Addr), γ[i]? = some a → γ'[i]? = some a) {a : Addr} {o : AObj} (hl : ∀ ob, (a, ob) ∈ led → (a, ob) ∈ led') (h : ObjIs C X γ led a o) : ObjIs C X' γ' led' a o := by
  cases o with
  | list xs =>
    obtain ⟨vs, ob, h1, h1', h2⟩ := h
    exact ⟨vs, ob, hl _ h1, h1', VRs.map hS hγ _ _ h2⟩
  | dict ks xs ep =>
    obtain ⟨es, n, vs, h1, h1', h2, h3, h4⟩ := h
    exact ⟨es, n, vs, hl _ h1, h1', h2, h3, VRs.map hS hγ _ _ h4⟩
  | inst c d =>
    obtain ⟨dx, h1, h2⟩ := h
    exact ⟨dx, hγ _ _ h1, hl _ h2⟩
  | src c =>
    obtain ⟨i, j, t, u, n, h1, h2⟩ := h
    exact ⟨i, j, t, u, n, hl _ h1, h2⟩
  | fix xs =>
    obtain ⟨vs, ob, h1, h1', h2⟩ := h
    exact ⟨vs, ob, hl _ h1, h1', VRs.map hS hγ _ _ h2⟩
theorem Stb.protect {P : List Addr} (hP : ∀ a ∈ P, a ∉ keys led) (hsub : ∀ p ∈ led, p ∈ led') {a : Addr} {o : Obj} (h : Stb C X γ led a o) : Stb C (P ++ X) γ led' a o := by
  rcases h with h | ⟨h1, h2, h3⟩
  · exact .inl h
  · refine .inr ⟨hsub _ h1, h2, fun q => ?_⟩
    rcases List.mem_append.mp q with q | q
    · exact hP _ q (mem_keys h1)
    · exact h3 q
theorem Stb.weak {P : List Addr} {a : Addr} {o : Obj} (h : Stb C (P ++ X) γ led a o) : Stb C X γ led a o := by
  rcases h with h | ⟨h1, h2, h3⟩
  · exact .inl h
  · exact .inr ⟨h1, h2, fun q => h3 (List.mem_append_right _ q)⟩
theorem Rel.protect {o : Objs} {P : List Addr} (R : Rel C X γ led o) (hP : ∀ a ∈ P, a ∉ keys led) (hsub : ∀ p ∈ led, p ∈ led') (hin : ∀ a ∈ P, a ∈ keys led') : Rel C (P ++ X) γ led' o where
  len := R.len
  nodup := R.nodup
  apart := fun a ha q => by
    rcases List.mem_append.mp q with q | q
    · exact hP _ q (R.gmem ha)
    · exact R.apart a ha q
  inled := fun a ha => by
    rcases List.mem_append.mp ha with q | q
    · exact hin _ q
    · obtain ⟨p, hp, rfl⟩ := List.mem_map.mp (R.inled a q)
      exact mem_keys (hsub p hp)
  has := fun i ob a h1 h2 => (R.has i ob a h1 h2).map (fun _ _ => Stb.protect hP hsub) (fun _ _ e => e) fun _ h => hsub _ h
theorem Rel.weak {o : Objs} {P : List Addr} (R : Rel C (P ++ X) γ led o) : Rel C X γ led o where
  len := R.len
  nodup := R.nodup
  apart := fun a ha q => R.apart a ha (List.mem_append_right _ q)
  inled := fun a ha => R.inled a (List.mem_append_right _ ha)
  has := fun i ob a h1 h2 => (R.has i ob a h1 h2).map (fun _ _ => Stb.weak) (fun _ _ e => e) fun _ h => h
end
section
variable {C : Cfg} {X γ : List Addr} {led : Led} {o : Objs} {env : Env} {l : Loc}
theorem upd_stb {d : Addr} {ob : Obj} (hd : d ∈ γ) {a : Addr} {x : Obj} (h : Stb C X γ led a x) : Stb C X γ (upd led d ob) a x := by
  rcases h with h | ⟨h1, h2, h3⟩
  · exact .inl h
  · exact .inr ⟨mem_upd_ne h1 (fun (e : a = d) => h2 (by rw [e]; exact hd)), h2, h3⟩
theorem nodup_get {γ : List Addr} (h : γ.Nodup) {i j : Nat} {a : Addr} (hi : γ[i]? = some a) (hj : γ[j]? = some a) : i = j := by
  have l1 := (List.getElem?_eq_some_iff.mp hi).1
  have l2 := (List.getElem?_eq_some_iff.mp hj).1
  exact (List.getElem?_inj l1 h).mp (hi.trans hj.symm)
theorem At.write {i : Nat} {d : Addr} {ob : Obj} {old ao : AObj} {h h' : Heap} (V : EnvOk env X) (D : At C env X γ led l o h) (hi : γ[i]? = some d) (ho : o[i]? = some old) (hs : ∀ b x, b ≠ d → h.get? b = some x → h'.get? b = some x) (hd : h'.get? d = some ob)
    (hao : ObjIs C X γ (upd led d ob) d ao) (hq : C.H.objs.size ≤ d) : At C env X γ (upd led d ob) l (lput o i ao) h' ∧ Ext [] γ led γ (upd led d ob) := by
  have hm : d ∈ γ := List.mem_of_getElem? hi
  have e : Ext [] γ led γ (upd led d ob) := ⟨⟨[], by simp, by simp⟩, fun p hp hg _ => mem_upd_ne hp (fun q => hg (by rw [q]; exact hm)), fun x hx => by rw [keys_upd]; exact hx⟩
  refine ⟨D.ext V e (D.hold.put (D.rel.gmem hm) hs hd hq) ⟨by simp [lput, D.rel.len], D.rel.nodup, D.rel.apart, fun a ha => by rw [keys_upd]; exact D.rel.inled a ha, ?_⟩, e⟩
  intro j x a h1 h2
  have hl := (List.getElem?_eq_some_iff.mp ho).1
  by_cases q : j = i
  · subst q
    rw [hi] at h2
    cases h2
    simp only [lput, List.getElem?_set_self hl] at h1
    cases h1
    exact hao
  · simp only [lput, List.getElem?_set_ne (Ne.symm q)] at h1
    have ne : a ≠ d := fun e => q (nodup_get D.rel.nodup (e ▸ h2) hi)
    exact (D.rel.has j x a h1 h2).map (fun _ _ => upd_stb hm) (fun _ _ e => e) fun ob' hm' => mem_upd_ne hm' ne
end
noncomputable def dputV : List Nm → List Value → Nm → Value → List Value
  | k :: ks, x :: xs, n, v => match eqN k n with
    | true => v :: xs
    | false => x :: dputV ks xs n v
  | _, xs, _, _ => xs
theorem isStr_key {t : Tok} (k n : Nm) : (Value.str (toS k) t).isStr (toS n) = eqN k n := beq_toS k n
theorem ents_put {w : World} {n : Nm} {t : Tok} {v : Value} : ∀ {es : List DictEntry} {ks : List Nm} {vs : List Value}, Ents w es ks vs →
    (dhas ks n = true → Ents w (putL (toS n) (PyData.keyHash w.params (toS n)) (.str (toS n) t) v es) ks (dputV ks vs n v)) ∧
    (dhas ks n = false → Ents w (putL (toS n) (PyData.keyHash w.params (toS n)) (.str (toS n) t) v es) (ks ++ [n]) (vs ++ [v]))
  | [], _, _, h => by
    obtain ⟨rfl, rfl⟩ := h
    refine ⟨fun h => by simp [dhas] at h, fun _ => ?_⟩
    exact ⟨n, [], v, [], rfl, rfl, rfl, ⟨t, rfl⟩, rfl, rfl, rfl⟩
  | e :: es, _, _, h => by
    obtain ⟨k, ks', v', vs', rfl, rfl, h1, ⟨t', h2⟩, h3, r⟩ := h
    have ih := @ents_put w n t v es ks' vs' r
    have e1 : e.key.isStr (toS n) = eqN k n := by rw [h2]; exact isStr_key k n
    cases q : eqN k n with
    | true =>
      refine ⟨fun _ => ?_, fun hh => by simp [dhas, q] at hh⟩
      simp only [putL, e1, q, if_true, dputV]
      exact ⟨k, ks', v, vs', rfl, rfl, h1, ⟨t', h2⟩, rfl, r⟩
    | false =>
      refine ⟨fun hh => ?_, fun hh => ?_⟩
      · simp only [dhas, q, Bool.false_or] at hh
        simp only [putL, e1, q, Bool.false_eq_true, if_false, dputV]
        exact ⟨k, ks', v', _, rfl, rfl, h1, ⟨t', h2⟩, h3, ih.1 hh⟩
      · simp only [dhas, q, Bool.false_or] at hh
        simp only [putL, e1, q, Bool.false_eq_true, if_false]
        exact ⟨k, ks' ++ [n], v', vs' ++ [v], rfl, rfl, h1, ⟨t', h2⟩, h3, ih.2 hh⟩
theorem any_key {w : World} {n : Nm} : ∀ {es : List DictEntry} {ks : List Nm} {vs : List Value}, Ents w es ks vs → es.any (·.key.isStr (toS n)) = dhas ks n
  | [], _, _, h => by obtain ⟨rfl, rfl⟩ := h; rfl
  | e :: es, _, _, h => by
    obtain ⟨k, ks', v', vs', rfl, rfl, h1, ⟨t', h2⟩, h3, r⟩ := h
    simp only [List.any_cons, dhas, h2, isStr_key, any_key r]
theorem putN_eq {w : World} {n : Nm} {m : Nat} {es : List DictEntry} {ks : List Nm} {vs : List Value} (h : Ents w es ks vs) : putN (toS n) es m = (match dhas ks n with | true => m | false => m + 1) := by
  unfold putN
  rw [any_key h]
  cases dhas ks n <;> rfl
theorem dput_rel {C : Cfg} {X γ : List Addr} {led : Led} {r : AV} {u : Value} (hu : VR C X γ led r u) : ∀ {ks : List Nm} {xs : List AV} {vs : List Value} {n : Nm}, VRs C X γ led xs vs → VRs C X γ led (dput ks xs n r) (dputV ks vs n u)
  | [], xs, vs, n, h => by cases xs <;> (simp only [VRs] at h; (try obtain ⟨v, vs', rfl, h2, h3⟩ := h); (try subst h)); all_goals simp only [dput, dputV, VRs]; (try exact ⟨v, vs', rfl, h2, h3⟩)
  | k :: ks, [], vs, n, h => by simp only [VRs] at h; subst h; simp [dput, dputV, VRs]
  | k :: ks, x :: xs, vs, n, h => by
    simp only [VRs] at h
    obtain ⟨v, vs', rfl, h2, h3⟩ := h
    simp only [dput, dputV]
    cases eqN k n with
    | true => simp only [VRs]; exact ⟨u, vs', rfl, hu, h3⟩
    | false => simp only [VRs]; exact ⟨v, _, rfl, h2, dput_rel hu h3⟩
theorem ents_nodup {ks : List Nm} {n : Nm} (h : ks.Nodup) (hn : dhas ks n = false) : (ks ++ [n]).Nodup := by
  refine List.nodup_append.mpr ⟨h, by simp, fun a ha b hb => ?_⟩
  simp at hb
  subst hb
  intro e
  subst e
  rw [dhas_iff.mpr ha] at hn
  cases hn
end
section
theorem isOf_key {w : World} {nm : Nm} : ∀ {es : List DictEntry} {ks : List Nm} {vs : List Value}, Ents w es ks vs → ∀ e ∈ es, Value.isStrOf (toS nm) e.key = e.key.isStr (toS nm)
  | [], _, _, _ => fun e he => nomatch he
  | e :: es, _, _, h => by
    obtain ⟨k, ks', v', vs', rfl, rfl, h1, ⟨t', h2⟩, h3, r⟩ := h
    intro e' he'
    rcases List.mem_cons.mp he' with rfl | he'
    · rw [h2]; rfl
    · exact isOf_key r e' he'
theorem idx_congr {p q : DictEntry → Bool} {es : List DictEntry} (h : ∀ e ∈ es, p e = q e) : es.toArray.findIdx? p = es.findIdx? q := by
  rw [List.findIdx?_toArray]
  induction es with
  | nil => rfl
  | cons e r ih =>
    simp only [List.findIdx?_cons]
    rw [h e (.head _), ih fun e' he => h e' (.tail _ he)]
section
variable {C : Cfg} {X γ : List Addr} {led : Led} {o : Objs} {A : Around} {s : Shared} {E : Value → Shared → Prop} {nd : Nat} {env : Env} {l : Loc}
theorem putL_len {nm : PySem.Str} {hh : Int} {k v : Value} : ∀ {es : List DictEntry}, (putL nm hh k v es).length ≤ es.length + 1
  | [] => by simp [putL]
  | e :: r => by
    have ih := @putL_len nm hh k v r
    unfold putL
    split
    · simp
    · simp only [List.length_cons]; omega
theorem dictSet_exact {d : Addr} {es : List DictEntry} {n : Nat} {nm : Nm} {t : Tok} {v : Value} {ks : List Nm} {vs : List Value} {Q : Unit → Shared → Prop} (ho : s.heap.get? d = some (dictOf es n)) (he : Ents C.w es ks vs) (hz : es.length ≤ 1000)
    (hQ : ∀ h', h'.get? d = some (dictOf (putL (toS nm) (PyData.keyHash C.w.params (toS nm)) (.str (toS nm) t) v es) (putN (toS nm) es n)) → (∀ b x, b ≠ d → s.heap.get? b = some x → h'.get? b = some x) → Q () { s with heap := h', toks := s.toks + 1 }) :
    wpAny (model C.prog C.w) A (dictSet d (.str (toS nm) t) v) Q E s := by
  have same : ∀ f, ∀ b x, b ≠ d → s.heap.get? b = some x → (s.heap.update d f).get? b = some x := fun f b x hb hx => (Heap.get?_update_ne _ _ _ _ hb).trans hx
  have hkey : (strKind C.prog C.w).is (toS nm) (.str (toS nm) t) = true := is_str nm t
  have hk : KeysOf (strKind C.prog C.w) es.toArray := fun e he' => he.keysOf e (by simpa using he')
  have hd : (dictOf es n).data = .dict es.toArray n := rfl
  have h1 := putL_find (toS nm) (PyData.keyHash C.w.params (toS nm)) (.str (toS nm) t) v es
  have h2 := any_of_findIdx (toS nm) es
  unfold dictSet
  refine wpAny_holding (wpAny_bind ((strKind C.prog C.w).pyHash hkey ?_))
  unfold dictSetHashed
  refine wpAny_holding (wpAny_bind (wpAny_dictFind_of (s := { s with toks := s.toks + 1 }) hkey ho hd hk ?_))
  have hf : es.toArray.findIdx? (fun e => (strKind C.prog C.w).is (toS nm) e.key) = es.findIdx? (fun e => e.key.isStr (toS nm)) := idx_congr fun e he' => isOf_key he e he'
  rw [hf]
  cases hi : es.findIdx? fun e => e.key.isStr (toS nm) with
  | some i =>
    rw [hi] at h1 h2
    refine wpAny_bind (wpAny_rule (wpAny_bind (wpAny_updateDict (s := { s with toks := s.toks + 1 }) ho hd (wpAny_point ?_))))
    refine hQ _ ?_ (same _)
    rw [Heap.get?_update_self _ ho (Obj.isFreed_of_dict (Obj.data_mapDict hd _))]
    unfold putN
    rw [← h2, ← h1]
    simp [Obj.mapDict]
  | none =>
    rw [hi] at h1 h2
    refine wpAny_bind (wpAny_rule (wpAny_updateDictKeys (hz := by rw [List.size_toArray]; exact Nat.le_trans hz (by decide)) (s := { s with toks := s.toks + 1 }) ho hd ?_))
    refine hQ _ ?_ (same _)
    rw [Heap.get?_update_self _ ho (Obj.isFreed_of_dict (Obj.data_mapDictKeys hd _))]
    unfold putN
    rw [← h2, ← h1]
    simp [Obj.mapDictKeys]
    rfl
theorem setItem_dict {d : Addr} {es : List DictEntry} {n : Nat} {nm : Nm} {t : Tok} {v : Value} {ks : List Nm} {vs : List Value} {Q : Unit → Shared → Prop} (ho : s.heap.get? d = some (dictOf es n)) (he : Ents C.w es ks vs) (hz : es.length ≤ 1000)
    (hQ : ∀ h', h'.get? d = some (dictOf (putL (toS nm) (PyData.keyHash C.w.params (toS nm)) (.str (toS nm) t) v es) (putN (toS nm) es n)) → (∀ b x, b ≠ d → s.heap.get? b = some x → h'.get? b = some x) → Q () { s with heap := h', toks := s.toks + 1 }) :
    wpAny (model C.prog C.w) A (setItem (.ref d) (.str (toS nm) t) v) Q E s := by
  have hT : s.TypeIs (.ref d) "dict" := ⟨_, ho, rfl⟩
  unfold setItem
  refine wpAny_holding ?_
  refine wpAny_bind (wpAny_sequenceKey hT (by decide) ?_)
  refine wpAny_bind (wpAny_callSpecial?_slot (name := Str.ofString "__setitem__") hT PySem.F.slot_dict_setitem
    (wpAny_call_entry PySem.F.slot_dict_setitem hT PySem.F.entry_dict_setitem ?_ (PySem.F.args_dict_setitem_3 _ _ _)))
  show wpAny _ _ (Builtin.Dict.notOrdered "__setitem__" ⟨[.ref d, .str (toS nm) t, v], []⟩ >>= _) _ _ s
  refine wpAny_bind (wpAny_notOrdered_dict hT ?_)
  show wpAny _ _ (dictSet d (.str (toS nm) t) v >>= _) _ _ s
  refine wpAny_bind (dictSet_exact ho he hz fun h' a b => ?_)
  exact wpAny_pure ⟨.none, rfl, wpAny_pure (hQ h' a b)⟩
theorem setItem_list {d : Addr} {vs : List Value} {n k : Nat} {t : Tok} {v : Value} {Q : Unit → Shared → Prop} (ho : s.heap.get? d = some (listO vs n)) (hk : k < vs.length) (hk2 : k < 1000)
    (hQ : ∀ h' n', h'.get? d = some (listO (vs.set k v) n') → (∀ b x, b ≠ d → s.heap.get? b = some x → h'.get? b = some x) → Q () { s with heap := h' }) :
    wpAny (model C.prog C.w) A (setItem (.ref d) (.int (Int.ofNat k) t) v) Q E s := by
  have hl : s.heap.IsList d vs.toArray := ⟨_, ho, rfl, n, rfl⟩
  have hd : (listO vs n).data = .seq vs.toArray n := rfl
  have same : ∀ f, ∀ b x, b ≠ d → s.heap.get? b = some x → (s.heap.update d f).get? b = some x := fun f b x hb hx => (Heap.get?_update_ne _ _ _ _ hb).trans hx
  have hx' : vs.toArray[k]? = some vs[k] := by simp [hk]
  have fits := fitsIndex_of (nat_0 k) (nat_hi hk2)
  obtain ⟨j, hj⟩ : ∃ j : Int, j = Int.ofNat k := ⟨_, rfl⟩
  rw [← hj] at fits ⊢
  unfold setItem
  refine wpAny_holding ?_
  refine wpAny_bind (wpAny_sequenceKey hl.typeIs (by decide) ?_)
  refine wpAny_bind (wpAny_callSpecial?_slot (name := Str.ofString "__setitem__") hl.typeIs PySem.F.slot_list_setitem
    (wpAny_call_entry PySem.F.slot_list_setitem hl.typeIs PySem.F.entry_list_setitem ?_ (PySem.F.args_list_setitem_3 _ _ _)))
  show wpAny _ _ (Builtin.List.listSubscript? (.int j t) >>= _) _ _ s
  refine wpAny_bind (wpAny_listSubscript_int fits ?_)
  clear fits
  subst hj
  show wpAny _ _ ((seqItemAt d k >>= fun r => pure (r.map (k, ·))) >>= _) _ _ s
  refine wpAny_bind (wpAny_bind (wpAny_seqItemAt ho hd (wpAny_pure ?_)))
  rw [hx']
  show wpAny _ _ (setSeqItemAt d k v >>= _) _ _ s
  refine wpAny_bind (wpAny_setSeqItemAt ho hd ?_)
  obtain ⟨n', hd'⟩ := Obj.data_mapSeq hd (·.setIfInBounds k v)
  have e : Obj.mapSeq (·.setIfInBounds k v) (listO vs n) = listO (vs.set k v) n := by
    show ({ cls := .type "list", data := .seq (vs.toArray.setIfInBounds k v) (if (vs.toArray.setIfInBounds k v).size == vs.toArray.size then n else n + 1) } : Obj) = _
    simp
  have q := hQ (s.heap.update d (Obj.mapSeq (·.setIfInBounds k v))) n (by rw [Heap.get?_update_self _ ho (Obj.isFreed_of_seq hd'), e]) (same _)
  first
    | exact wpAny_bind (wpAny_pure (wpAny_pure ⟨.none, rfl, wpAny_pure q⟩))
    | exact wpAny_pure ⟨.none, rfl, wpAny_pure q⟩
theorem osa_same {K : Frag} {P : Addr} {R : Except Value Flow → Shared → Prop} {x dx : Addr} {ox : Obj} {name : PySem.Str} {tk : Tok} {v : Value} {es : List DictEntry} {n : Nat} (D : s.heap.get? dx = some (dictOf es n)) (X : K.In s.heap)
    (I : InstAt s.heap x ox P (some (dictOf es n))) (hd : ox.dict = some dx) (hp : plainOver K P = true) (ht : takerIn K P name = some none) (hh : (clsIn K P).any (·.hasDict) = true) (hl : (getL name es).isSome = true) (hz : es.length ≤ 900)
    (h : ∀ h', h'.get? dx = some (dictOf (putL name (PyData.keyHash C.w.params name) (.str name s.toks) v es) (putN name es n)) → (∀ b x, b ≠ dx → s.heap.get? b = some x → h'.get? b = some x) → R (.ok (.ret .none)) { s with heap := h', toks := s.toks + 1 }) :
    codeAny (model C.prog C.w) A (.call (.builtin "object.__setattr__") ⟨[.ref x, .str name tk, v], []⟩) R s := by
  refine osa_open X I hp ht fun b => ?_
  obtain ⟨cd, hc, hd'⟩ := any_some hh
  have pe := putName_dict name (PyData.keyHash C.w.params name) (.str name s.toks) v es n
  have D' : (s.heap.update dx (Obj.putName name (PyData.keyHash C.w.params name) (.str name s.toks) v)).get? dx = some (dictOf (putL name (PyData.keyHash C.w.params name) (.str name s.toks) v es) (putN name es n)) := by
    rw [Heap.get?_update_self _ D (by rw [pe]; rfl), pe]
  have same : ∀ f, ∀ b x, b ≠ dx → s.heap.get? b = some x → (s.heap.update dx f).get? b = some x := fun f b x hb hx => (Heap.get?_update_ne _ _ _ _ hb).trans hx
  obtain ⟨hx, hcl, hn, -⟩ := I
  obtain ⟨oc, odi, oda, osl⟩ := ox
  dsimp only at hcl hd
  subst hcl hd
  refine wpAny_bind (wpAny_pure (wpAny_bind (wpAny_bind (wpAny_loadPart hx (wpAny_bind ((looks_clsIn X hc).here ?_))))))
  rw [hd']
  refine wpAny_pure (a := some dx) (wpAny_bind (wpAny_pure (wpAny_bind ?_)))
  unfold nsSet
  refine wpAny_bind (wpAny_bind (wpAny_askSetting (wpAny_pure (wpAny_bind (wpAny_mkText (wpAny_bind (wpAny_loadPart D ?_)))))))
  dsimp only
  have c : (!es.toArray.any (·.key.isStr name) && es.toArray.any (·.refKey)) = false := by
    unfold getL at hl
    simp only [List.any_toArray]
    split at hl
    · rename_i en he
      rw [List.any_eq_true.mpr ⟨en, List.mem_of_find?_eq_some he, List.find?_some he⟩]; rfl
    · split at hl
      · cases hl
      · rename_i z; rw [Bool.not_eq_true] at z; rw [z, Bool.and_false]
  rw [aRefKeyMayBeTheName_at, c]
  refine wpAny_updatePart D ?_
  have hz' : (putL name (PyData.keyHash C.w.params name) (.str name s.toks) v es).toArray.size ≤ sizeLine + 1 := by
    rw [List.size_toArray]
    have := @putL_len name (PyData.keyHash C.w.params name) (.str name s.toks) v es
    exact Nat.le_trans this (Nat.le_trans (by omega : es.length + 1 ≤ 1000) (by decide))
  refine wpAny_bind (wpAny_lookBehind D' (pastItsLine_dict hz') ?_)
  exact wpAny_pure (h _ D' (same _))
end
end
section
section
variable {C : Cfg} {X γ : List Addr} {led : Led} {o o' : Objs} {A : Around} {s : Shared} {E : Value → Shared → Prop} {nd : Nat} {env : Env} {l : Loc}
theorem VRs.upd {d : Addr} {ob : Obj} (hd : d ∈ γ) {xs : List AV} {vs : List Value} (h : VRs C X γ led xs vs) : VRs C X γ (upd led d ob) xs vs := VRs.map (fun _ _ => upd_stb hd) (fun _ _ e => e) _ _ h
theorem VR.upd {d : Addr} {ob : Obj} (hd : d ∈ γ) {x : AV} {v : Value} (h : VR C X γ led x v) : VR C X γ (upd led d ob) x v := VR.map (fun _ _ => upd_stb hd) (fun _ _ e => e) _ _ h
theorem VRs.set : ∀ {xs : List AV} {vs : List Value} {k : Nat} {x : AV} {v : Value}, VRs C X γ led xs vs → VR C X γ led x v → VRs C X γ led (xs.set k x) (vs.set k v)
  | [], vs, k, x, v, h, hv => by simp only [VRs] at h; subst h; simp [VRs]
  | y :: xs, vs, 0, x, v, h, hv => by
    simp only [VRs] at h
    obtain ⟨w, vs', rfl, h1, h2⟩ := h
    simp only [List.set_cons_zero, VRs]
    exact ⟨v, vs', rfl, hv, h2⟩
  | y :: xs, vs, k + 1, x, v, h, hv => by
    simp only [VRs] at h
    obtain ⟨w, vs', rfl, h1, h2⟩ := h
    simp only [List.set_cons_succ, VRs]
    exact ⟨w, _, rfl, h1, VRs.set h2 hv⟩
theorem VRs.cons {x : AV} {v : Value} {xs : List AV} {vs : List Value} (h : VR C X γ led x v) (hs : VRs C X γ led xs vs) : VRs C X γ led (x :: xs) (v :: vs) := by
  simp only [VRs]
  exact ⟨v, vs, rfl, h, hs⟩
theorem VRs.take : ∀ {xs : List AV} {vs : List Value} {k : Nat}, VRs C X γ led xs vs → VRs C X γ led (xs.take k) (vs.take k)
  | xs, vs, 0, h => by simp [VRs]
  | [], vs, k + 1, h => by simp only [VRs] at h; subst h; simp [VRs]
  | y :: xs, vs, k + 1, h => by
    simp only [VRs] at h
    obtain ⟨w, vs', rfl, h1, h2⟩ := h
    simp only [List.take_succ_cons, VRs]
    exact ⟨w, _, rfl, h1, VRs.take h2⟩
theorem VRs.drop : ∀ {xs : List AV} {vs : List Value} {k : Nat}, VRs C X γ led xs vs → VRs C X γ led (xs.drop k) (vs.drop k)
  | xs, vs, 0, h => by simpa using h
  | [], vs, k + 1, h => by simp only [VRs] at h; subst h; simp [VRs]
  | y :: xs, vs, k + 1, h => by
    simp only [VRs] at h
    obtain ⟨w, vs', rfl, h1, h2⟩ := h
    simp only [List.drop_succ_cons]
    exact VRs.drop h2
noncomputable def putB (b : Bool) (ks : List Nm) (xs : List AV) (ep : Option Nat) (n : Nm) (v : AV) : AObj := Bool.rec (.dict (ks ++ [n]) (xs ++ [v]) (ep.map (· + 1))) (.dict ks (dput ks xs n v) ep) b
theorem put_is {d : Addr} {es : List DictEntry} {m : Nat} {nm : Nm} {t : Tok} {v : AV} {w : Value} {ks : List Nm} {xs : List AV} {vs : List Value} {ep : Option Nat} (b : Bool) (q : dhas ks nm = b) (hd : d ∈ γ) (hk : d ∈ keys led) (he : Ents C.w es ks vs) (hep : ∀ x, ep = some x → m = x) (hn : ks.Nodup) (hxs : VRs C X γ led xs vs) (hv : VR C X γ led v w) :
    ObjIs C X γ (upd led d (dictOf (putL (toS nm) (PyData.keyHash C.w.params (toS nm)) (.str (toS nm) t) w es) (putN (toS nm) es m))) d (putB b ks xs ep nm v) := by
  have e1 := ents_put (n := nm) (t := t) (v := w) he
  have e2 := putN_eq (n := nm) (m := m) he
  cases b with
  | true =>
    rw [q] at e2
    refine ⟨_, _, _, mem_upd_self hk, fun x hx => ?_, e1.1 q, hn, VRs.upd hd (dput_rel hv hxs)⟩
    rw [e2]; exact hep x hx
  | false =>
    rw [q] at e2
    refine ⟨_, _, _, mem_upd_self hk, fun x hx => ?_, e1.2 q, ents_nodup hn q, VRs.upd hd (hxs.append (VRs.one hv))⟩
    rw [e2]
    cases ep with
    | none => cases hx
    | some y => simp at hx; simp only [] at hep ⊢; rw [hep y rfl]; exact hx
theorem setSub_ok {c i v : AV} {cv iv vv : Value} {Q : Unit → Shared → Prop} (K : C.Ok) (V : EnvOk env X) (D : At C env X γ led l o s.heap) (hc : VR C X γ led c cv) (hi : VR C X γ led i iv) (hv : VR C X γ led v vv) (h : setSub o c i v = some o')
    (hQ : ∀ h' tk led', At C env X γ led' l o' h' → Ext [] γ led γ led' → Q () { s with heap := h', toks := tk }) : wpAny (model C.prog C.w) A (setItem cv iv vv) Q E s := by
  refine oa h fun d hd h => oa h fun ob ho h => oe h (fun p hp h => oa h fun nm hnm hz => ?_) fun h => oa h fun xs hx h => oa h fun z hi' h => oa h fun k hk h => oi h fun hb hz => ?_
  · cases jRef_ok hd
    cases jStr_ok hnm
    obtain ⟨ks, xs, ep⟩ := p
    cases jDct_ok hp
    obtain ⟨a, ha, rfl⟩ := vr_ref hc
    obtain ⟨t, rfl⟩ := vr_str hi
    obtain ⟨es, m, vs, hm, hep, he, hn, hxs⟩ := D.rel.has _ _ _ ho ha
    have fin : ∀ b, dhas ks nm = b → (if ks.length < 1000 then some (lput o d (putB b ks xs ep nm v)) else none) = some o' → wpAny (model C.prog C.w) A (setItem (.ref a) (.str (toS nm) t) vv) Q E s := fun b q h => by
      refine oi h fun hb h => ?_
      cases h
      have P := put_is (t := t) b q (List.mem_of_getElem? ha) (mem_keys hm) he hep hn hxs hv
      refine setItem_dict (D.hold.at_ _ hm) he (by rw [he.length.1]; omega) fun h' h1 h2 => ?_
      obtain ⟨D2, e2⟩ := D.write V ha ho h2 h1 P (D.hold.up hm dict_noseq)
      exact hQ h' _ _ D2 e2
    exact om hz (fin true) (fin false)
  · cases jRef_ok hd
    cases jLst_ok hx
    cases jInt_ok hi'
    cases jNat_ok hk
    cases hz
    obtain ⟨a, ha, rfl⟩ := vr_ref hc
    obtain ⟨t, rfl⟩ := vr_int hi
    obtain ⟨vs, ob, hm, ⟨⟨n, rfl⟩, hZ⟩, hxs⟩ := D.rel.has _ _ _ ho ha
    have hag : a ∈ γ := List.mem_of_getElem? ha
    refine setItem_list (D.hold.at_ _ hm) (by rw [hxs.length]; exact hb.1) hb.2 fun h' n' h1 h2 => ?_
    obtain ⟨D2, e2⟩ := D.write V ha ho h2 h1 (ao := .list (xs.set k v)) ⟨_, _, mem_upd_self (mem_keys hm), ⟨⟨n', rfl⟩, hZ⟩, VRs.upd hag (VRs.set hxs hv)⟩ hZ
    exact hQ h' s.toks _ D2 e2
theorem setAtt_ok {fl : Nat → List Nm} {c v : AV} {n : Nm} {cv vv : Value} {Q : Unit → Shared → Prop} (K : C.Ok) (Y : ClsOk C fl) (V : EnvOk env X) (D : At C env X γ led l o s.heap) (hc : VR C X γ led c cv) (hv : VR C X γ led v vv) (h : setAtt fl o c n v = some o')
    (hQ : ∀ h' tk led', At C env X γ led' l o' h' → Ext [] γ led γ led' → Q () { s with heap := h', toks := tk }) : wpAny (model C.prog C.w) A (setAttr cv (toS n) vv) Q E s := by
  refine oa h fun i hi h => oa h fun oc ho h => ob h fun c d hd' h => ot h fun hf h => oa h fun od hd h => ob h fun ks p hp hz => ?_
  cases jRef_ok hi
  cases jInst_ok hd'
  cases jDct_ok (xs := p.1) (ep := p.2) hp
  obtain ⟨x, hx, rfl⟩ := vr_ref hc
  obtain ⟨dx, hdx, hm⟩ := D.rel.has _ _ _ ho hx
  obtain ⟨es, m, vs, hm2, hep, he, hn, hxs⟩ := D.rel.has _ _ _ hd hdx
  obtain ⟨y1, y2, y3⟩ := Y.set c n hf
  obtain ⟨z1, z2, z3⟩ := Y.get c n hf
  have hl : (getL (toS n) es).isSome = true := by rw [getL_of he]; rfl
  have I : W.InstAt s.heap x (instObj (C.cls c) dx) (C.cls c) (some (dictOf es m)) := ⟨D.hold.at_ _ hm, rfl, rfl, D.hold.at_ _ hm2⟩
  have KI := K.k.keeps D.hold.keep
  have fin : ∀ b, dhas ks n = b → (if ks.length < 900 then some (lput o d (putB b ks p.1 p.2 n v)) else none) = some o' → wpAny (model C.prog C.w) A (setAttr (.ref x) (toS n) vv) Q E s := fun b q h => by
    refine oi h fun hb h => ?_
    cases h
    refine set_plain KI I y1 (osa_same (C := C) (s := { s with toks := s.toks + 1 }) (D.hold.at_ _ hm2) KI I rfl y2 y3 z3 hl (by rw [he.length.1]; omega) fun h' h1 h2 => ?_)
    obtain ⟨D2, e2⟩ := D.write V hdx hd h2 h1 (put_is (t := s.toks + 1) b q (List.mem_of_getElem? hdx) (mem_keys hm2) he hep hn hxs hv) (D.hold.up hm2 dict_noseq)
    exact hQ h' _ _ D2 e2
  exact om hz (fin true) (fin false)
theorem write_list {i : Nat} {a : Addr} {xs ys : List AV} {vs us : List Value} {n m : Nat} {h h' : Heap} (V : EnvOk env X) (D : At C env X γ led l o h) (hi : γ[i]? = some a) (ho : o[i]? = some (.list xs)) (hm : (a, listO vs n) ∈ led)
    (h1 : h'.get? a = some (listO us m)) (h2 : ∀ b x, b ≠ a → h.get? b = some x → h'.get? b = some x) (hy : VRs C X γ led ys us) (hZ : C.H.objs.size ≤ a) : At C env X γ (upd led a (listO us m)) l (lput o i (.list ys)) h' ∧ Ext [] γ led γ (upd led a (listO us m)) :=
  D.write V hi ho h2 h1 ⟨_, _, mem_upd_self (mem_keys hm), ⟨⟨m, rfl⟩, hZ⟩, VRs.upd (List.mem_of_getElem? hi) hy⟩ hZ
theorem nm_cases {x : Nm} {t : Nm} (h : eqN x t = true) : x = t := eqN_iff.mp h
theorem append_ok {i : Nat} {a : Addr} {xs : List AV} {v : AV} {vv : Value} {Q : Value → Shared → Prop} (V : EnvOk env X) (D : At C env X γ led l o s.heap) (hi : γ[i]? = some a) (ho : o[i]? = some (.list xs)) (hv : VR C X γ led v vv) (hz : xs.length < 1000)
    (hQ : ∀ h' tk led', At C env X γ led' l (lput o i (.list (xs ++ [v]))) h' → Ext [] γ led γ led' → Q .none { s with heap := h', toks := tk }) : wpAny (model C.prog C.w) A (call (.builtin "list.append") [.ref a, vv]) Q E s := by
  obtain ⟨vs, ob, hm, ⟨⟨n, rfl⟩, hZ⟩, hxs⟩ := D.rel.has _ _ _ ho hi
  refine wpAny_list_append_plain (items := vs.toArray) ⟨n, D.hold.at_ _ hm⟩ (fun h' hp hs => ?_) (by rw [List.size_toArray, hxs.length]; exact Nat.le_trans (Nat.le_of_lt hz) (by decide))
  obtain ⟨m, hp⟩ := hp
  have e : ({ cls := Value.type "list", data := .seq (vs.toArray.push vv) m } : Obj) = listO (vs ++ [vv]) m := by simp
  rw [e] at hp
  obtain ⟨D2, e2⟩ := write_list V D hi ho hm hp (fun b x hb hx => (hs.2 b hb).trans hx) (hxs.append (VRs.one hv)) hZ
  exact hQ h' s.toks _ D2 e2
theorem insert_ok {i k : Nat} {a : Addr} {xs : List AV} {v : AV} {vv : Value} {t : Tok} {Q : Value → Shared → Prop} (V : EnvOk env X) (D : At C env X γ led l o s.heap) (hi : γ[i]? = some a) (ho : o[i]? = some (.list xs)) (hv : VR C X γ led v vv) (hk : k ≤ xs.length) (hz : xs.length < 1000)
    (hQ : ∀ h' tk led', At C env X γ led' l (lput o i (.list (xs.take k ++ v :: xs.drop k))) h' → Ext [] γ led γ led' → Q .none { s with heap := h', toks := tk }) : wpAny (model C.prog C.w) A (call (.builtin "list.insert") [.ref a, .int (Int.ofNat k) t, vv]) Q E s := by
  obtain ⟨vs, ob, hm, ⟨⟨n, rfl⟩, hZ⟩, hxs⟩ := D.rel.has _ _ _ ho hi
  have g := D.hold.at_ _ hm
  have hl := hxs.length
  have hf : Builtin.List.listFitsIndex (Int.ofNat k) = true := fitsIndex_of (nat_0 k) (nat_hi (show k < 1000 by omega))
  have e0 : ¬ (Int.ofNat k < 0) := by have := nat_0 k; omega
  have e1 : min (Int.ofNat k).toNat vs.toArray.size = k := by
    show min k vs.toArray.size = k
    rw [List.size_toArray, hl]; omega
  obtain ⟨j, hj⟩ : ∃ j : Int, j = Int.ofNat k := ⟨_, rfl⟩
  rw [← hj] at hf e0 e1 ⊢
  refine call_meets PySem.F.slot_list_insert ⟨_, g, rfl⟩ PySem.F.entry_list_insert (PySem.F.args_list_insert_3 _ _ _) (PySem.AutoSeq1.list_insert_list_int_val_1 a vs.toArray n j t vv (by simp [hf]) (by rw [List.size_toArray, hl]; exact Nat.le_trans (Nat.le_of_lt hz) (by decide))) ⟨g, ?_⟩
  have e : Obj.mapSeq (fun xs => have k := if j < 0 then (j + ((xs.size : Nat) : Int)).toNat else min j.toNat xs.size; (xs.extract 0 k).push vv ++ xs.extract k) (listO vs n) = listO (vs.take k ++ vv :: vs.drop k) (n + 1) := by
    have h3 : (vs.toArray.extract 0 k).push vv ++ vs.toArray.extract k = (vs.take k ++ vv :: vs.drop k).toArray := by
      apply Array.toList_inj.mp
      simp
      exact List.take_of_length_le (by simp)
    have h4 : ((vs.take k ++ vv :: vs.drop k).toArray.size == vs.toArray.size) = false := by
      simp only [List.size_toArray, List.length_append, List.length_take, List.length_cons, List.length_drop, beq_eq_false_iff_ne]
      omega
    have h5 : (if j < 0 then (j + ((vs.toArray.size : Nat) : Int)).toNat else min j.toNat vs.toArray.size) = k := by rw [if_neg e0, e1]
    have h6 : ∀ q : Nat, q = k → ({ cls := .type "list", data := .seq ((vs.toArray.extract 0 q).push vv ++ vs.toArray.extract q) (if ((vs.toArray.extract 0 q).push vv ++ vs.toArray.extract q).size == vs.toArray.size then n else n + 1) } : Obj) = listO (vs.take k ++ vv :: vs.drop k) (n + 1) := fun q hq => by
      rw [hq, h3, h4]
      rfl
    exact h6 _ h5
  obtain ⟨D2, e2⟩ := write_list V D hi ho hm (h' := s.heap.update a (Obj.mapSeq fun xs => have k := if j < 0 then (j + ((xs.size : Nat) : Int)).toNat else min j.toNat xs.size; (xs.extract 0 k).push vv ++ xs.extract k)) (us := vs.take k ++ vv :: vs.drop k) (m := n + 1) (by rw [Heap.get?_update_self _ g (by rw [e]; rfl), e]) (fun b x hb hx => (Heap.get?_update_ne _ _ _ _ hb).trans hx) (VRs.append (VRs.take hxs) (VRs.cons hv (VRs.drop hxs))) hZ
  exact hQ _ s.toks _ D2 e2
theorem extend_ok {i j : Nat} {a b : Addr} {xs ys : List AV} {Q : Value → Shared → Prop} (V : EnvOk env X) (D : At C env X γ led l o s.heap) (hi : γ[i]? = some a) (ho : o[i]? = some (.list xs)) (hj : γ[j]? = some b) (ho' : o[j]? = some (.list ys)) (hz : xs.length + ys.length < 1000)
    (hQ : ∀ h' tk led', At C env X γ led' l (lput o i (.list (xs ++ ys))) h' → Ext [] γ led γ led' → Q .none { s with heap := h', toks := tk }) : wpAny (model C.prog C.w) A (call (.builtin "list.extend") [.ref a, .ref b]) Q E s := by
  obtain ⟨vs, ob, hm, ⟨⟨n, rfl⟩, hZ⟩, hxs⟩ := D.rel.has _ _ _ ho hi
  obtain ⟨us, ob2, hm2, ⟨⟨n2, rfl⟩, hZ2⟩, hys⟩ := D.rel.has _ _ _ ho' hj
  have g := D.hold.at_ _ hm
  have g2 := D.hold.at_ _ hm2
  have hl := hxs.length
  have hl2 := hys.length
  have hsz : vs.toArray.size + us.toArray.size ≤ sizeLine := by rw [List.size_toArray, List.size_toArray, hl, hl2]; exact Nat.le_trans (Nat.le_of_lt hz) (by decide)
  refine call_meets PySem.F.slot_list_extend ⟨_, g, rfl⟩ PySem.F.entry_list_extend (PySem.F.args_list_extend_2 _ _) (AutoSeq1.list_extend_list_list_0 a vs.toArray n b us.toArray n2 (extend_door hsz) (Nat.le_trans (Nat.le_add_right _ _) hsz) (Nat.le_trans hsz (Nat.le_succ _))) ⟨g, g2, ?_⟩
  have e : Obj.mapSeq (fun x => x ++ us.toArray) (listO vs n) = listO (vs ++ us) (if (vs.toArray ++ us.toArray).size == vs.toArray.size then n else n + 1) := by
    rw [mapSeq_app]; simp
  obtain ⟨D2, e2⟩ := write_list V D hi ho hm (h' := s.heap.update a (Obj.mapSeq fun x => x ++ us.toArray)) (us := vs ++ us) (by rw [Heap.get?_update_self _ g (by rw [e]; rfl), e]) (fun b x hb hx => (Heap.get?_update_ne _ _ _ _ hb).trans hx) (hxs.append hys) hZ
  exact hQ _ s.toks _ D2 e2
end
end
section
noncomputable def Nz (C : Cfg) (led : Led) : Prop := ∃ a ∈ keys led, C.H.objs.size ≤ a
noncomputable def SC (C : Cfg) (nd : Nat) (f : Value) (args : List AV) (o : Objs) (r : AV) (o' : Objs) : Prop :=
  ∀ (A : Around) (s : Shared) (X γ : List Addr) (led : Led) (vs : List Value) (Q E : Value → Shared → Prop), Room A nd → Nz C led → Hold C s.heap led → Rel C X γ led o → VRs C X γ led args vs →
    (∀ v h' tk γ' led', Hold C h' led' → Rel C X γ' led' o' → Ext [] γ led γ' led' → VR C X γ' led' r v → Q v { s with heap := h', toks := tk }) →
    wpAny (model C.prog C.w) A (call f vs) Q E s
noncomputable def KeepsF (C : Cfg) (f : Value) : Prop := ∀ h, C.K.In h → ∃ k, (k = Keeper.frame ∨ k = Keeper.machine ∨ k = Keeper.boundFrame) ∧ Looks (model C.prog C.w) h (keeperOf f) k
theorem keeps_builtin {C : Cfg} {id : String} : KeepsF C (.builtin id) := fun h X => ⟨.machine, .inr (.inl rfl), .now⟩
theorem keeps_type {C : Cfg} {id : String} : KeepsF C (.type id) := fun h X => ⟨.machine, .inr (.inl rfl), .now⟩
theorem keeps_ref {C : Cfg} {f : Value} (h : keepIn C.K f = true) : KeepsF C f := fun _ X => keeps_K h _ X
structure OrcOk (C : Cfg) (nd : Nat) (O : Orc) : Prop where
  call : ∀ i as o r o', O.call i as o = some (r, o') → SC C nd (C.gval i) as o r o' ∧ KeepsF C (C.gval i)
  meth : ∀ c x g, O.meth c x = some g → ∃ f, C.gval g = .ref f ∧ plainGet C.K (C.cls c) (toS x) = true ∧ findIn C.K (.ref (C.cls c)) (toS x) = some (some (.ref f)) ∧ isFn C.K (.ref f) = true
  gls : ∀ (i : Nat) (p : Nm × AV), O.gls[i]? = some p → GlobIs C p.1 p.2
  cls : ClsOk C O.fl
section
variable {C : Cfg} {nd : Nat} {env : Env} {X γ : List Addr} {led : Led} {l : Loc} {o o' o₁ o₂ o₃ : Objs} {r r₁ r₂ : AV} {A : Around} {s : Shared} {Q E : Value → Shared → Prop}
theorem argTs_any {es : List PySem.Expr} : (argTs env es).any (·.1) = false := by
  induction es with
  | nil => rfl
  | cons e r ih => simp only [argTs, List.map_cons, List.any_cons, Bool.false_or] at ih ⊢; exact ih
theorem call_with {pos : Pos} {f : Value} {first : List Value} {es : List PySem.Expr} {rs : List AV} (K : C.Ok) (hk : KeepsF C f) (R : Room A nd) (D : At C env X γ led l o s.heap) (h2 : SEs C nd env X (spliced (argTs env es)) l o rs o₂) (hnil : es = [] → rs = [] ∧ o₂ = o)
    (hQ : ∀ vs h' tk γ' led', At C env X γ' led' l o₂ h' → Ext [] γ led γ' led' → VRs C X γ' led' rs vs → wpAny (model C.prog C.w) A (call f (first ++ vs)) Q E { s with heap := h', toks := tk }) :
    wpAny (model C.prog C.w) A (callWith pos f first (argTs env es) []) Q E s := by
  refine callWith_of (P := fun h => C.K.In h) (by rw [argTs_any]; rfl) hk ?_
  cases es with
  | nil =>
    refine evalArgs_nil3 ?_
    obtain ⟨rfl, rfl⟩ := hnil rfl
    exact ⟨K.k.keeps D.hold.keep, hQ [] s.heap s.toks γ led D .refl (by simp only [VRs])⟩
  | cons e es =>
    exact Calls.evalArgs_plain (h2 A s γ led _ E R D fun vs h' tk γ' led' D' e' hv => ⟨K.k.keeps D'.hold.keep, hQ vs h' tk γ' led' D' e' hv⟩)
theorem args_ses {pos : Pos} {es : List PySem.Expr} (h : es.all plainE = true) : backTo pos (starEach es env) = argTs env es := args_eq h
theorem se_call {x : PySem.Str} {p1 : Pos} {pos : Pos} {es : List PySem.Expr} {i : Nat} {rs : List AV} (K : C.Ok) (V : EnvOk env X) (hp : es.all plainE = true) (h1 : SE C nd env X (eval (.Name x p1) env) l o (.g i) o₁)
    (h2 : SEs C nd env X (spliced (argTs env es)) l o₁ rs o₂) (hnil : es = [] → rs = [] ∧ o₂ = o₁) (hk : KeepsF C (C.gval i)) (h3 : SC C nd (C.gval i) rs o₂ r o₃) :
    SE C nd env X (eval (.Call (.Name x p1) es [] pos) env) l o r o₃ := by
  intro A s γ led Q E R D hQ
  refine wpAny_Call_Name_kw (h1 A s γ led _ E R D fun f h' tk γ' led' D' e' hf => ?_)
  simp only [VR] at hf
  subst hf
  rw [args_ses hp]
  refine call_with K hk R D' h2 hnil fun vs h'' tk' γ'' led'' D'' e'' hvs => ?_
  have ne : Nz C led'' := by
    obtain ⟨oL, m, h1, h2, _⟩ := D''.loc
    exact ⟨_, mem_keys h1, D''.hold.up h1 h2.noseq⟩
  refine h3 A _ X γ'' led'' _ Q E R ne D''.hold D''.rel (by simpa using hvs) fun v h3 tk3 γ3 led3 H3 R3 e3 hv => ?_
  exact hQ v h3 tk3 γ3 led3 (D''.ext V e3 H3 R3) ((e'.trans e'').trans e3) hv
theorem mcall_wp {base : PySem.Expr} {name : PySem.Str} {apos pos : Pos} {es : List PySem.Expr} {s : Shared} {Q E : Value → Shared → Prop} (hc : notCall base = true) (hp : es.all plainE = true) (hl : (apos.endLine == pos.line) = true) (hn : es.length < 30)
    (h : wpAny (model C.prog C.w) A (eval base env) (fun ov s₁ => ∀ pl, wpAny (model C.prog C.w) A (getMethod ov name pl) (fun fx s₂ => wpAny (model C.prog C.w) A (callWith pos fx.1 fx.2 (argTs env es) []) Q E s₂) E s₁) E s) :
    wpAny (model C.prog C.w) A (eval (.Call (.Attribute base name apos) es [] pos) env) Q E s := by
  rw [arm_eval_Call, args_ses hp]
  have hb : attributeBase base name env (eval base env) = eval base env := by
    unfold attributeBase
    cases base <;> first | rfl | exact nfB hc
  have hf : methodCallForm (es.length + ([] : List Keyword).length) (argTs env es) (backToKw pos (keywordEach [] env)) = true := by
    unfold methodCallForm
    have h1 : (argTs env es).all (!·.1) = true := by
      unfold argTs; simp
    simp only [h1, Bool.true_and]
    show (true && decide (es.length + 0 + 0 < 30)) = true
    simpa using hn
  rw [hb]
  refine wpAny_bind (wpAny_mono h (fun ov s₁ h₁ => wpAny_bind (wpAny_standAt ?_)) fun _ _ x => x)
  unfold methodCall calleeOf
  rw [hf]
  refine wpAny_bind (wpAny_holding (wpAny_mono (h₁ _) (fun fx s₂ h₂ => ?_) fun _ _ x => x))
  unfold methodCallPos
  simp only [hl, Bool.not_true, Bool.false_or, if_true]
  exact wpAny_bind (wpAny_pure h₂)
theorem nm_append : toS [97, 112, 112, 101, 110, 100] = ("append" : PySem.Str) := by decide +kernel
theorem nm_extend : toS [101, 120, 116, 101, 110, 100] = ("extend" : PySem.Str) := by decide +kernel
theorem nm_insert : toS [105, 110, 115, 101, 114, 116] = ("insert" : PySem.Str) := by decide +kernel
theorem se_lmeth {base : PySem.Expr} {x : Nm} {apos pos : Pos} {es : List PySem.Expr} {i : Nat} {xs0 xs : List AV} {rs : List AV} (K : C.Ok) (V : EnvOk env X) (hc : notCall base = true) (hp : es.all plainE = true) (hl : (apos.endLine == pos.line) = true) (hn : es.length < 30)
    (h1 : SE C nd env X (eval base env) l o (.ref i) o₁) (ho1 : o₁[i]? = some (.list xs0)) (h2 : SEs C nd env X (spliced (argTs env es)) l o₁ rs o₂) (hnil : es = [] → rs = [] ∧ o₂ = o₁) (ho : o₂[i]? = some (.list xs)) (h3 : listMeth o₂ i xs x rs = some (r, o₃)) :
    SE C nd env X (eval (.Call (.Attribute base (toS x) apos) es [] pos) env) l o r o₃ := by
  intro A s γ led Q E R D hQ
  refine mcall_wp hc hp hl hn (h1 A s γ led _ E R D fun u h' tk γ' led' D' e' hu pl => ?_)
  simp only [VR] at hu
  obtain ⟨a, ha, rfl⟩ := hu
  obtain ⟨vs0, ob0, hm0, ⟨⟨n0, rfl⟩, _⟩, hxs0⟩ := D'.rel.has _ _ _ ho1 ha
  have g0 := D'.hold.at_ _ hm0
  have hT : (⟨h', s.gens, s.drawn, tk, s.os⟩ : Shared).TypeIs (.ref a) "list" := ⟨_, g0, rfl⟩
  have hd : ∀ b, Value.ref a = .ref b → ∃ o, h'.get? b = some o ∧ o.dict = none := fun b e => by cases e; exact ⟨_, g0, rfl⟩
  delta listMeth at h3
  cases rs with
  | nil => exact nsM h3
  | cons v rs =>
  cases rs with
  | nil =>
    refine om h3 (fun q h3 => oi h3 fun hz h4 => ?_) fun _ h3 => ot h3 fun q h3 => oa h3 fun j hj h3 => ou h3 fun q2 h3 => oa h3 fun oc ho' h3 => oa h3 fun ys hy h3 => oi h3 fun hz h4 => ?_
    · cases eqN_iff.mp q
      cases h4
      rw [nm_append]
      refine getMethod_builtin hT PySem.F.plainAttrs_list PySem.F.slot_list_append PySem.F.type_list_append hd ?_
      refine call_with K keeps_builtin R D' h2 hnil fun vs h'' tk' γ'' led'' D'' e'' hvs => ?_
      obtain ⟨w, vs', rfl, hw, rfl⟩ := hvs
      exact append_ok V D'' (pre_get e'' ha) ho hw hz fun h3 tk3 led3 D3 e3 => hQ _ h3 tk3 γ'' led3 D3 ((e'.trans e'').trans e3) rfl
    · cases eqN_iff.mp q
      cases jRef_ok hj
      cases jLst_ok hy
      cases h4
      rw [nm_extend]
      refine getMethod_builtin hT PySem.F.plainAttrs_list PySem.F.slot_list_extend PySem.F.type_list_extend hd ?_
      refine call_with K keeps_builtin R D' h2 hnil fun vs h'' tk' γ'' led'' D'' e'' hvs => ?_
      obtain ⟨w, vs', rfl, ⟨b, hb, rfl⟩, rfl⟩ := hvs
      exact extend_ok V D'' (pre_get e'' ha) ho hb ho' hz fun h3 tk3 led3 D3 e3 => hQ _ h3 tk3 γ'' led3 D3 ((e'.trans e'').trans e3) rfl
  | cons v2 rs =>
    refine ot h3 fun q h3 => ?_
    cases rs with
    | cons _ _ => exact nsM h3
    | nil =>
      refine oa h3 fun z hz h3 => oa h3 fun k hk h3 => oi h3 fun hz' h4 => ?_
      cases eqN_iff.mp q
      cases jInt_ok hz
      cases jNat_ok hk
      cases h4
      rw [nm_insert]
      refine getMethod_builtin hT PySem.F.plainAttrs_list PySem.F.slot_list_insert PySem.F.type_list_insert hd ?_
      refine call_with K keeps_builtin R D' h2 hnil fun vs h'' tk' γ'' led'' D'' e'' hvs => ?_
      obtain ⟨w, vs', rfl, ⟨t, rfl⟩, w2, vs2, rfl, hw2, rfl⟩ := hvs
      exact insert_ok V D'' (pre_get e'' ha) ho hw2 hz'.1 hz'.2 fun h3 tk3 led3 D3 e3 => hQ _ h3 tk3 γ'' led3 D3 ((e'.trans e'').trans e3) rfl
noncomputable def InstA (o : Objs) (v : AV) (c : Nat) (x : Nm) : Prop := match v with
  | .ref i => ∃ d ks xs ep, o[i]? = some (.inst c d) ∧ o[d]? = some (.dict ks xs ep) ∧ dhas ks x = false
  | .finst c' ks xs => c' = c ∧ dhas ks x = false
  | _ => False
theorem inst_of {v : AV} {c : Nat} {ks : List Nm} {x : Nm} (h : instA o v = some (c, ks)) (hk : dhas ks x = false) : InstA o v c x := by
  cases v with
  | finst c' ks' xs => cases h; exact ⟨rfl, hk⟩
  | ref i =>
    refine oa h fun oc ho h => ob h fun c d hc h => oa h fun od hd h => ob h fun ks p hp h4 => ?_
    cases jInst_ok hc
    cases jDct_ok (xs := p.1) (ep := p.2) hp
    cases h4
    exact ⟨d, ks, p.1, p.2, ho, hd, hk⟩
  | _ => exact nsM h
theorem inst_at {v : AV} {c : Nat} {x : Nm} {w : Value} {h : Heap} (K : C.Ok) (D : Hold C h led) (R : Rel C X γ led o) (hv : VR C X γ led v w) (I : InstA o v c x) :
    ∃ a dx es k, w = .ref a ∧ W.InstAt h a (instObj (C.cls c) dx) (C.cls c) (some (dictOf es k)) ∧ getL (toS x) es = some none := by
  have none_of : ∀ {es : List DictEntry} {ks : List Nm} {vs : List Value}, Ents C.w es ks vs → dhas ks x = false → getL (toS x) es = some none := fun he hd => by
    rw [getL_of he]
    have q := dgetV_isSome (n := x) he.length.2
    rw [hd] at q
    cases z : dgetV _ _ x with
    | none => rfl
    | some u => rw [z] at q; cases q
  cases v with
  | ref i =>
    obtain ⟨d, ks, xs, ep, h1, h2, h3⟩ := I
    simp only [VR] at hv
    obtain ⟨a, ha, rfl⟩ := hv
    obtain ⟨dx, hdx, hm⟩ := R.has _ _ _ h1 ha
    obtain ⟨es, k, vs, hm2, _, he, hn, hxs⟩ := R.has _ _ _ h2 hdx
    exact ⟨a, dx, es, k, rfl, ⟨D.at_ _ hm, rfl, rfl, D.at_ _ hm2⟩, none_of he h3⟩
  | finst c' ks xs =>
    obtain ⟨rfl, h3⟩ := I
    simp only [VR] at hv
    obtain ⟨a, dx, es, k, vs, rfl, h1, h2, he, hn, hxs⟩ := hv
    exact ⟨a, dx, es, k, rfl, ⟨h1.get K D, rfl, rfl, h2.get K D⟩, none_of he h3⟩
  | _ => exact absurd I id
theorem se_imeth {O : Orc} {base : PySem.Expr} {x : Nm} {apos pos : Pos} {es : List PySem.Expr} {v : AV} {c g : Nat} {rs : List AV} (K : C.Ok) (V : EnvOk env X) (OK : OrcOk C nd O) (hc : notCall base = true) (hp : es.all plainE = true) (hl : (apos.endLine == pos.line) = true) (hn : es.length < 30)
    (h1 : SE C nd env X (eval base env) l o v o₁) (I : InstA o₁ v c x) (hm : O.meth c x = some g) (h2 : SEs C nd env X (spliced (argTs env es)) l o₁ rs o₂) (hnil : es = [] → rs = [] ∧ o₂ = o₁) (h3 : O.call g (v :: rs) o₂ = some (r, o₃)) :
    SE C nd env X (eval (.Call (.Attribute base (toS x) apos) es [] pos) env) l o r o₃ := by
  intro A s γ led Q E R D hQ
  refine mcall_wp hc hp hl hn (h1 A s γ led _ E R D fun u h' tk γ' led' D' e' hu pl => ?_)
  obtain ⟨a, dx, es', k, rfl, IA, hg⟩ := inst_at K D'.hold D'.rel hu I
  obtain ⟨f, hf, m1, m2, m3⟩ := OK.meth c x g hm
  obtain ⟨m, F⟩ := D'.fr
  obtain ⟨h4, hk⟩ := OK.call _ _ _ _ _ h3
  refine method_inst F K.k IA m1 m2 m3 hg ?_
  rw [hf] at hk h4
  refine call_with K hk R D' h2 hnil fun vs h'' tk' γ'' led'' D'' e'' hvs => ?_
  have ne : Nz C led'' := by
    obtain ⟨oL, m, h1, h2, _⟩ := D''.loc
    exact ⟨_, mem_keys h1, D''.hold.up h1 h2.noseq⟩
  refine h4 A _ X γ'' led'' _ Q E R ne D''.hold D''.rel (VRs.cons (VR.ext e'' (by simp) _ _ hu) hvs) fun w h5 tk3 γ3 led3 H3 R3 e3 hw => ?_
  exact hQ w h5 tk3 γ3 led3 (D''.ext V e3 H3 R3) ((e'.trans e'').trans e3) hw
end
end
section
noncomputable def ownE (env : Env) : List Addr := env.locals :: env.cells.map (·.2)
noncomputable def FR (C : Cfg) (X γ : List Addr) (led : Led) : FL → Flow → Prop
  | .next, f => f = .next
  | .ret v, f => ∃ w, f = .ret w ∧ VR C X γ led v w
noncomputable def SS (C : Cfg) (nd : Nat) (env : Env) (X : List Addr) (t : Sem Flow) (l : Loc) (o : Objs) (fl : FL) (l' : Loc) (o' : Objs) : Prop :=
  ∀ (A : Around) (s : Shared) (γ : List Addr) (led : Led) (Q : Flow → Shared → Prop) (E : Value → Shared → Prop), Room A nd → At C env X γ led l o s.heap →
    (∀ f h' tk γ' led', At C env X γ' led' l' o' h' → Ext (ownE env) γ led γ' led' → FR C X γ' led' fl f → Q f { s with heap := h', toks := tk }) →
    wpAny (model C.prog C.w) A t Q E s
theorem mem_lookup {l : List (PySem.Str × Addr)} {n : PySem.Str} {c : Addr} (h : l.lookup n = some c) : c ∈ l.map (·.2) := by
  induction l with
  | nil => cases h
  | cons p r ih =>
    obtain ⟨k, a⟩ := p
    unfold List.lookup at h
    split at h
    · cases h; simp
    · exact List.mem_cons_of_mem _ (ih h)
section
variable {C : Cfg} {nd : Nat} {env : Env} {X γ : List Addr} {led : Led} {l l' l₁ l₂ : Loc} {o o' o₁ o₂ o₃ : Objs} {r r₁ r₂ : AV} {fl : FL} {A : Around} {s : Shared} {E : Value → Shared → Prop}
theorem EnvOk.own (V : EnvOk env X) : ∀ x ∈ ownE env, x ∈ X := fun x hx => by
  rcases List.mem_cons.mp hx with rfl | hx
  · exact V.loc
  · obtain ⟨p, hp, rfl⟩ := List.mem_map.mp hx
    exact V.allc p hp
theorem upd_ext {d : Addr} {ob : Obj} {own : List Addr} (hd : d ∈ own) : Ext own γ led γ (upd led d ob) :=
  ⟨⟨[], by simp, by simp⟩, fun p hp _ ho => mem_upd_ne hp fun (e : p.1 = d) => ho (by rw [e]; exact hd), fun x hx => by rw [keys_upd]; exact hx⟩
theorem one_ext {d : Addr} {ob : Obj} : Ext [d] γ led γ (upd led d ob) := upd_ext (by simp)
noncomputable def StoreOk (env : Env) (own : List Addr) (x : Nm) : Prop := env.locals ∈ own ∧ (env.kindOf (toS x) = some .cell → ∀ c, env.cells.lookup (toS x) = some c → c ∈ own)
theorem storeOk_all {x : Nm} : StoreOk env (ownE env) x := ⟨by simp [ownE], fun _ c hc => List.mem_cons_of_mem _ (mem_lookup hc)⟩
theorem store_own {x : Nm} {av : AV} {v : Value} {own : List Addr} {Q : Unit → Shared → Prop} (V : EnvOk env X) (hO : StoreOk env own x) (hk : env.kindOf (toS x) = some .local ∨ env.kindOf (toS x) = some .cell) (D : At C env X γ led l o s.heap) (hv : VR C X γ led av v)
    (hQ : ∀ h' tk led', At C env X γ led' (stv l x av) o h' → Ext own γ led γ led' → Q () { s with heap := h', toks := tk }) : wpAny (model C.prog C.w) A (storeName env (toS x) v) Q E s := by
  obtain ⟨oL, m, h1, h2, h3⟩ := D.loc
  have hLk : env.locals ∈ keys led := mem_keys h1
  rcases hk with hk | hk
  · refine wpAny_storeName_local hk (h2.ns (D.hold.at_ _ h1)) (fun h' hn hs => ?_) (by rw [V.kind]; rfl)
    obtain ⟨oL', hg, hno⟩ := ns_o hn
    have e1 : Ext [env.locals] γ led γ (upd led env.locals oL') := one_ext
    have ho : ∀ y ∈ [env.locals], y ∈ X := by simp [V.loc]
    have D2 := D.hold.put hLk (fun b y hb hy => (hs.2 b hb).trans hy) hg (D.hold.up h1 h2.noseq)
    have R2 : Rel C X γ (upd led env.locals oL') o := D.rel.ext (own := [env.locals]) ho (fun p hp hne => mem_upd_ne hp (by simpa using hne)) fun a ha => by rw [keys_upd]; exact ha
    refine hQ h' _ _ ⟨D2, R2, ⟨oL', _, mem_upd_self hLk, hno, fun y av' hl => ⟨fun hky => ?_, fun hky => ?_⟩⟩, fun n c hc => ?_⟩ (upd_ext hO.1)
    · rw [lk_stv] at hl
      by_cases q : y = x
      · subst q
        simp only [if_true, Option.some.injEq] at hl ⊢
        subst hl
        exact ⟨v, rfl, VR.ext e1 ho _ _ hv⟩
      · rw [if_neg q] at hl
        obtain ⟨w, hw, hr⟩ := (h3 y av' hl).1 hky
        refine ⟨w, ?_, VR.ext e1 ho _ _ hr⟩
        rw [if_neg fun e => q (toS_inj e)]
        exact hw
    · rw [lk_stv] at hl
      by_cases q : y = x
      · subst q; rw [hk] at hky; cases hky
      · rw [if_neg q] at hl
        obtain ⟨c, oc, w, hc, hm, hd, hr⟩ := (h3 y av' hl).2 hky
        exact ⟨c, oc, w, hc, mem_upd_ne hm (V.cells _ _ hc).2, hd, VR.ext e1 ho _ _ hr⟩
    · obtain ⟨oc, ov, hm, hd⟩ := D.cel n c hc
      exact ⟨oc, ov, mem_upd_ne hm (V.cells _ _ hc).2, hd⟩
  · obtain ⟨c, hc⟩ := V.hasc _ hk
    obtain ⟨oc, ov, hm, hd⟩ := D.cel _ _ hc
    refine wpAny_storeName_cell V.kind hk hc ⟨oc, D.hold.at_ _ hm, hd⟩ fun h' hn hs => ?_
    obtain ⟨oc', hg, hd'⟩ := hn
    have e1 : Ext [c] γ led γ (upd led c oc') := one_ext
    have ho : ∀ y ∈ [c], y ∈ X := by simp [(V.cells _ _ hc).1]
    have D2 := D.hold.put (mem_keys hm) (fun b y hb hy => (hs.2 b hb).trans hy) hg (D.hold.up hm (cell_noseq hd))
    have R2 : Rel C X γ (upd led c oc') o := D.rel.ext (own := [c]) ho (fun p hp hne => mem_upd_ne hp (by simpa using hne)) fun a ha => by rw [keys_upd]; exact ha
    refine hQ h' s.toks _ ⟨D2, R2, ⟨oL, m, mem_upd_ne h1 (Ne.symm (V.cells _ _ hc).2), h2, fun y av' hl => ⟨fun hky => ?_, fun hky => ?_⟩⟩, fun n c' hc' => ?_⟩ (upd_ext (hO.2 hk _ hc))
    · rw [lk_stv] at hl
      by_cases q : y = x
      · subst q; rw [hk] at hky; cases hky
      · rw [if_neg q] at hl
        obtain ⟨w, hw, hr⟩ := (h3 y av' hl).1 hky
        exact ⟨w, hw, VR.ext e1 ho _ _ hr⟩
    · rw [lk_stv] at hl
      by_cases q : y = x
      · subst q
        simp only [if_true, Option.some.injEq] at hl
        subst hl
        exact ⟨c, oc', v, hc, mem_upd_self (mem_keys hm), hd', VR.ext e1 ho _ _ hv⟩
      · rw [if_neg q] at hl
        obtain ⟨c', oc2, w, hc', hm', hd2, hr⟩ := (h3 y av' hl).2 hky
        refine ⟨c', oc2, w, hc', mem_upd_ne hm' (fun (e : c' = c) => q ?_), hd2, VR.ext e1 ho _ _ hr⟩
        rw [e] at hc'
        exact toS_inj (V.inj _ _ _ hc' hc)
    · by_cases q : c' = c
      · subst q; exact ⟨oc', _, mem_upd_self (mem_keys hm), hd'⟩
      · obtain ⟨oc2, ov2, hm2, hd2⟩ := D.cel n c' hc'
        exact ⟨oc2, ov2, mem_upd_ne hm2 q, hd2⟩
theorem store_ok {x : Nm} {av : AV} {v : Value} {Q : Unit → Shared → Prop} (V : EnvOk env X) (hk : env.kindOf (toS x) = some .local ∨ env.kindOf (toS x) = some .cell) (D : At C env X γ led l o s.heap) (hv : VR C X γ led av v)
    (hQ : ∀ h' tk led', At C env X γ led' (stv l x av) o h' → Ext (ownE env) γ led γ led' → Q () { s with heap := h', toks := tk }) : wpAny (model C.prog C.w) A (storeName env (toS x) v) Q E s := store_own V storeOk_all hk D hv hQ
noncomputable def NmExp (e : PySem.Expr) (x : Nm) : Prop := ∃ pos, e = .Name (toS x) pos
theorem assign_name {x : Nm} {pos : Pos} {av : AV} {v : Value} {own : List Addr} {Q : Unit → Shared → Prop} (V : EnvOk env X) (hO : StoreOk env own x) (hk : env.kindOf (toS x) = some .local ∨ env.kindOf (toS x) = some .cell) (D : At C env X γ led l o s.heap) (hv : VR C X γ led av v)
    (hQ : ∀ h' tk led', At C env X γ led' (stv l x av) o h' → Ext own γ led γ led' → Q () { s with heap := h', toks := tk }) : wpAny (model C.prog C.w) A (assign (.Name (toS x) pos) env v) Q E s :=
  wpAny_assign_Name (store_own V hO hk D hv hQ)
noncomputable def NmExps (env : Env) : List PySem.Expr → List Nm → Prop
  | [], xs => xs = []
  | e :: es, xs => ∃ x xs' pos, xs = x :: xs' ∧ e = .Name (toS x) pos ∧ (env.kindOf (toS x) = some .local ∨ env.kindOf (toS x) = some .cell) ∧ NmExps env es xs'
theorem nmexps_each : ∀ {es : List PySem.Expr} {xs : List Nm}, NmExps env es xs → (assignEach es env) = es.map (fun e => (false, assign e env)) ∧ es.length = xs.length
  | [], xs, h => by simp only [NmExps] at h; subst h; exact ⟨rfl, rfl⟩
  | e :: es, xs, h => by
    obtain ⟨x, xs', pos, rfl, rfl, _, h3⟩ := h
    obtain ⟨a, b⟩ := nmexps_each h3
    refine ⟨?_, by simp [b]⟩
    rw [List.map_cons, ← a]
    rfl
theorem bind_go {own : List Addr} (V : EnvOk env X) (hOX : ∀ y ∈ own, y ∈ X) : ∀ {es : List PySem.Expr} {xs : List Nm} {vs : List AV} {ws : List Value} {l l' : Loc} {s : Shared} {led : Led} {Q : Unit → Shared → Prop}, NmExps env es xs → (∀ x ∈ xs, StoreOk env own x) → bindGo xs vs l = some l' → At C env X γ led l o s.heap → VRs C X γ led vs ws →
    (∀ h' tk led', At C env X γ led' l' o h' → Ext own γ led γ led' → Q () { s with heap := h', toks := tk }) → wpAny (model C.prog C.w) A (assignInOrder (es.map fun e => assign e env) ws) Q E s
  | [], xs, vs, ws, l, l', s, led, Q, h, hS, hb, D, hv, hQ => by
    simp only [NmExps] at h
    subst h
    cases vs with
    | nil =>
      simp only [bindGo] at hb
      cases hb
      simp only [VRs] at hv
      subst hv
      exact wpAny_assignInOrder_none (hQ s.heap s.toks led D .refl)
    | cons => simp [bindGo] at hb
  | e :: es, xs, vs, ws, l, l', s, led, Q, h, hS, hb, D, hv, hQ => by
    obtain ⟨x, xs', pos, rfl, rfl, hk, h3⟩ := h
    cases vs with
    | nil => simp [bindGo] at hb
    | cons v vs =>
      simp only [bindGo] at hb
      simp only [VRs] at hv
      obtain ⟨w, ws', rfl, hw, hws⟩ := hv
      refine wpAny_assignInOrder_more (assign_name V (hS _ (.head _)) hk D hw fun h' tk led' D' e' => ?_)
      exact bind_go V hOX h3 (fun y hy => hS y (.tail _ hy)) hb D' (VRs.ext e' hOX _ _ hws) fun h2 tk2 led2 D2 e2 => hQ h2 tk2 led2 D2 (e'.trans e2)
theorem At.grow {h h' : Heap} (V : EnvOk env X) (D : At C env X γ led l o h) (hk : ∀ b x, h.get? b = some x → h'.get? b = some x) : At C env X γ led l o h' := D.ext V .refl (D.hold.grow hk) D.rel
theorem extBut_keep {h h' : Heap} (x : Heap.ExtBut h.objs.size h h') : ∀ b y, h.get? b = some y → h'.get? b = some y := fun b y e => x b y (Nat.ne_of_lt (Heap.lt_size e)) e
theorem assign_tuple {es : List PySem.Expr} {k : Nat} {pos : Pos} {xs : List Nm} {vs : List AV} {v : Value} {own : List Addr} {Q : Unit → Shared → Prop} (K : C.Ok) (V : EnvOk env X) (hOX : ∀ y ∈ own, y ∈ X) (hS : ∀ x ∈ xs, StoreOk env own x) (R : Room A nd) (hn : NmExps env es xs) (hb : bindGo xs vs l = some l') (D : At C env X γ led l o s.heap)
    (hv : VR C X γ led (.tup vs) v) (hQ : ∀ h' tk led', At C env X γ led' l' o h' → Ext own γ led γ led' → Q () { s with heap := h', toks := tk }) : wpAny (model C.prog C.w) A (assign (.Tuple es k pos) env v) Q E s := by
  simp only [VR] at hv
  obtain ⟨a, ws, n, rfl, hs, hws⟩ := hv
  obtain ⟨h1, h2⟩ := nmexps_each hn
  have hlen : ∀ {xs : List Nm} {vs : List AV} {l l' : Loc}, bindGo xs vs l = some l' → xs.length = vs.length := by
    intro xs
    induction xs with
    | nil => intro vs l l' h; cases vs with | nil => rfl | cons => simp [bindGo] at h
    | cons x xs ih => intro vs l l' h; cases vs with
      | nil => simp [bindGo] at h
      | cons v vs => simp only [bindGo] at h; simp [ih h]
  have hstar : ∀ es : List PySem.Expr, (es.map fun e => ((false, assign e env) : Bool × (Value → Sem Unit))).findIdx? (·.1) = none := fun es => by
    induction es with
    | nil => rfl
    | cons e r ih => simp [List.findIdx?_cons]
  refine wpAny_assign_Tuple R.1 (tup_at K D.hold hs) (by rw [h1, List.length_map, List.size_toArray, hws.length, h2, hlen hb]) (by rw [h1]; exact hstar es) fun h' he => ?_
  rw [h1, List.map_map]
  exact bind_go V hOX hn hS hb (D.grow (h' := h') V (extBut_keep he)) hws hQ
theorem FR.weak {P : List Addr} {f : Flow} (h : FR C (P ++ X) γ led fl f) : FR C X γ led fl f := by
  cases fl with
  | next => exact h
  | ret v =>
    obtain ⟨w, h1, h2⟩ := h
    exact ⟨w, h1, VR.map (fun _ _ => Stb.weak) (fun _ _ e => e) _ _ h2⟩
end
end
section
noncomputable def notComp (e : PySem.Expr) : Bool := @PySem.Expr.casesOn (fun _ => Bool) e (fun _ _ _ => true) (fun _ _ _ => true) (fun _ _ _ _ => true) (fun _ _ _ => true) (fun _ _ _ _ => true) (fun _ _ _ _ => true) (fun _ _ _ => true) (fun _ _ _ => true) (fun _ _ _ _ => false) (fun _ _ _ _ => false) (fun _ _ _ _ _ => false) (fun _ _ _ _ => true) (fun _ _ => true) (fun _ _ => true) (fun _ _ => true) (fun _ _ _ _ => true) (fun _ _ _ _ => true) (fun _ _ _ _ => true) (fun _ _ => true) (fun _ _ _ => true) (fun _ _ _ => true) (fun _ _ _ => true) (fun _ _ => true) (fun _ _ => true) (fun _ _ => true) (fun _ _ _ => true) (fun _ _ _ _ => true)
noncomputable def notTup (e : PySem.Expr) : Bool := @PySem.Expr.casesOn (fun _ => Bool) e (fun _ _ _ => true) (fun _ _ _ => true) (fun _ _ _ _ => true) (fun _ _ _ => true) (fun _ _ _ _ => true) (fun _ _ _ _ => true) (fun _ _ _ => true) (fun _ _ _ => true) (fun _ _ _ _ => true) (fun _ _ _ _ => true) (fun _ _ _ _ _ => true) (fun _ _ _ _ => true) (fun _ _ => true) (fun _ _ => true) (fun _ _ => true) (fun _ _ _ _ => true) (fun _ _ _ _ => true) (fun _ _ _ _ => true) (fun _ _ => true) (fun _ _ _ => true) (fun _ _ _ => true) (fun _ _ _ => true) (fun _ _ => true) (fun _ _ => true) (fun _ _ => true) (fun _ _ _ => false) (fun _ _ _ _ => true)
theorem swaps_no {value : PySem.Expr} {t : Option PySem.Expr} {n : Nat} {env : Env} (h : notComp value = true) : swapsWith value t n env = pure false := by
  cases value <;> first | rfl | exact nfB h
theorem swapped_name {value : PySem.Expr} {x : PySem.Str} {p : Pos} {env : Env} : swappedStores [.Name x p] value env = pure none := by
  unfold swappedStores
  cases value <;> rfl
theorem swapped_nt {value : PySem.Expr} {t : PySem.Expr} {env : Env} (h : notTup value = true) : swappedStores [t] value env = pure none := by
  unfold swappedStores
  cases t <;> first | rfl | (cases value <;> first | rfl | exact nfB h)
noncomputable def notStar (e : PySem.Expr) : Bool := @PySem.Expr.casesOn (fun _ => Bool) e (fun _ _ _ => true) (fun _ _ _ => true) (fun _ _ _ _ => true) (fun _ _ _ => true) (fun _ _ _ _ => true) (fun _ _ _ _ => true) (fun _ _ _ => true) (fun _ _ _ => true) (fun _ _ _ _ => true) (fun _ _ _ _ => true) (fun _ _ _ _ _ => true) (fun _ _ _ _ => true) (fun _ _ => true) (fun _ _ => true) (fun _ _ => true) (fun _ _ _ _ => true) (fun _ _ _ _ => true) (fun _ _ _ _ => true) (fun _ _ => true) (fun _ _ _ => true) (fun _ _ _ => true) (fun _ _ _ => true) (fun _ _ => false) (fun _ _ => true) (fun _ _ => true) (fun _ _ _ => true) (fun _ _ _ _ => true)
theorem plain_notStar {e : PySem.Expr} (h : plainE e = true) : notStar e = true := by cases e <;> first | rfl | exact nfB h
noncomputable def swS (F : PySem.Expr → Bool) (ts vs : List PySem.Expr) (env : Env) : Sem (Option (List PySem.Str)) := do
  if !(ts.length == 2 || ts.length == 3) || vs.length != ts.length || env.blockKind != .function then return none
  if vs.any F then return none
  let line := (ts.head?.map (·.pos.line)).getD 0
  let names := ts.filterMap fun
    | .Name id pos => if env.kindOf id == some .local && pos.line == line then some id else none
    | _ => none
  if names.length != ts.length || names.eraseDups.length != names.length then return none
  if vs.all (foldedForSure 8) then return none
  if vs.all (constantsAlone 8) then unsupported "assign.tuple-of-constant-expressions:order-of-the-stores"
  return some names
theorem swS_two {F : PySem.Expr → Bool} {x y : PySem.Str} {p1 p2 : Pos} {a b : PySem.Expr} {env : Env} (hf : env.scope.kind = .function) (ha : F a = false) (hb : F b = false) (hx : env.kindOf x = some .local) (hy : env.kindOf y = some .local) (hl : (p2.line == p1.line) = true) (hne : (x == y) = false)
    (h1 : (foldedForSure 8 a && foldedForSure 8 b) = false) (h2 : (constantsAlone 8 a && constantsAlone 8 b) = false) : swS F [.Name x p1, .Name y p2] [a, b] env = pure (some [x, y]) := by
  have hb' : (env.blockKind != .function) = false := by unfold Env.blockKind; rw [hf]; rfl
  have hl1 : (p1.line == p1.line) = true := by simp
  have e1 : [x, y].eraseDups.length = 2 := by
    have hyx : (y == x) = false := by
      cases q : y == x with
      | false => rfl
      | true =>
        have : y = x := eq_of_beq q
        subst this
        simp at hne
    simp [List.eraseDups_cons, hyx]
  unfold swS
  simp only [List.length_cons, List.length_nil, hb', List.any_cons, List.any_nil, List.all_cons, List.all_nil, Bool.and_true, h1, h2, ha, hb]
  have e2 : ((PySem.Expr.Name x p1).pos.line) = p1.line := rfl
  simp only [List.head?_cons, Option.map_some, Option.getD_some, e2, List.filterMap_cons, List.filterMap_nil, hx, hy, hl, hl1, beq_self_eq_true, Bool.and_true, Bool.and_self, if_true]
  simp [e1]
theorem swapped_two {x y : PySem.Str} {p1 p2 p3 p4 : Pos} {k1 k2 : Nat} {a b : PySem.Expr} {env : Env} (hf : env.scope.kind = .function) (ha : plainE a = true) (hb : plainE b = true) (hx : env.kindOf x = some .local) (hy : env.kindOf y = some .local) (hl : (p2.line == p1.line) = true) (hne : (x == y) = false)
    (h1 : (foldedForSure 8 a && foldedForSure 8 b) = false) (h2 : (constantsAlone 8 a && constantsAlone 8 b) = false) : swappedStores [.Tuple [.Name x p1, .Name y p2] k1 p3] (.Tuple [a, b] k2 p4) env = pure (some [x, y]) := by
  have st : ∀ e, plainE e = true → (fun e : PySem.Expr => match e with | .Starred .. => true | _ => false) e = false := fun e h => by
    cases e <;> first | rfl | exact nfB h
  exact swS_two (F := fun e => match e with | .Starred .. => true | _ => false) hf (st a ha) (st b hb) hx hy hl hne h1 h2
end
section
section
variable {C : Cfg} {nd : Nat} {env : Env} {X γ : List Addr} {led : Led} {l l' l₁ l₂ : Loc} {o o' o₁ o₂ o₃ : Objs} {r r₁ r₂ v : AV} {fl : FL} {A : Around} {s : Shared} {E : Value → Shared → Prop}
theorem Ext.ofOwn {own own' γ γ' : List Addr} {led led' : Led} (a : Ext own γ led γ' led') (h : ∀ x ∈ own, x ∈ own') : Ext own' γ led γ' led' := a.own h
theorem soles_no {value t : PySem.Expr} {n : Nat} (h : notComp value = true) : swapsWithSole [t] value n env = pure false := swaps_no h
theorem ss_nil : SS C nd env X (execs [] env) l o .next l o := by
  intro A s γ led Q E R D hQ
  exact wpAny_execs_nil (hQ .next s.heap s.toks γ led D .refl rfl)
theorem ss_cons {st : Stmt} {rest : List Stmt} (h1 : SS C nd env X (exec st env) l o .next l₁ o₁) (h2 : SS C nd env X (execs rest env) l₁ o₁ fl l' o') : SS C nd env X (execs (st :: rest) env) l o fl l' o' := by
  intro A s γ led Q E R D hQ
  refine wpAny_execs_cons (h1 A s γ led _ E R D fun f h' tk γ' led' D' e' hf => ?_)
  simp only [FR] at hf
  subst hf
  exact h2 A _ γ' led' Q E R D' fun f h2 tk2 γ2 led2 D2 e2 hf => hQ f h2 tk2 γ2 led2 D2 (e'.trans e2) hf
theorem ss_cons_ret {st : Stmt} {rest : List Stmt} (h1 : SS C nd env X (exec st env) l o (.ret v) l₁ o₁) : SS C nd env X (execs (st :: rest) env) l o (.ret v) l₁ o₁ := by
  intro A s γ led Q E R D hQ
  refine wpAny_execs_cons (h1 A s γ led _ E R D fun f h' tk γ' led' D' e' hf => ?_)
  obtain ⟨w, rfl, hw⟩ := hf
  exact hQ (.ret w) h' tk γ' led' D' e' ⟨w, rfl, hw⟩
theorem ss_expr {e : PySem.Expr} {pos : Pos} (V : EnvOk env X) (hc : notComp e = true) (h : SE C nd env X (eval e env) l o r o') : SS C nd env X (exec (.Expr e pos) env) l o .next l o' := by
  intro A s γ led Q E R D hQ
  refine wpAny_Expr_any (h A s γ led _ E R D fun w h' tk γ' led' D' e' hw => hQ .next h' tk γ' led' D' e'.nil rfl) ?_ (swaps_no hc)
  unfold interactive
  rw [V.kind]; rfl
theorem ss_ret {e : PySem.Expr} {pos : Pos} (h : SE C nd env X (eval e env) l o r o') : SS C nd env X (exec (.Return (some e) pos) env) l o (.ret r) l o' := by
  intro A s γ led Q E R D hQ
  exact wpAny_Return_some (h A s γ led _ E R D fun w h' tk γ' led' D' e' hw => hQ (.ret w) h' tk γ' led' D' e'.nil ⟨w, rfl, hw⟩)
theorem ss_asg {e : PySem.Expr} {x : Nm} {p pos : Pos} (V : EnvOk env X) (hk : env.kindOf (toS x) = some .local ∨ env.kindOf (toS x) = some .cell) (hc : notComp e = true) (h : SE C nd env X (eval e env) l o r o') :
    SS C nd env X (exec (.Assign [.Name (toS x) p] e pos) env) l o .next (stv l x r) o' := by
  intro A s γ led Q E R D hQ
  refine wpAny_Assign_stores (h A s γ led _ E R D fun w h' tk γ' led' D' e' hw => ?_) (soles_no hc) swapped_name
  show wpAny _ _ (assign (.Name (toS x) p) env w) _ _ _
  exact assign_name V storeOk_all hk D' hw fun h2 tk2 led2 D2 e2 => hQ .next h2 tk2 γ' led2 D2 (e'.nil.trans e2) rfl
theorem ss_asgT {e : PySem.Expr} {es : List PySem.Expr} {k : Nat} {xs : List Nm} {vs : List AV} {p pos : Pos} (K : C.Ok) (V : EnvOk env X) (hn : NmExps env es xs) (hc : notComp e = true) (hw : swappedStores [.Tuple es k p] e env = pure none)
    (h : SE C nd env X (eval e env) l o (.tup vs) o') (hb : bindGo xs vs l = some l') : SS C nd env X (exec (.Assign [.Tuple es k p] e pos) env) l o .next l' o' := by
  intro A s γ led Q E R D hQ
  refine wpAny_Assign_stores (h A s γ led _ E R D fun w h' tk γ' led' D' e' hw => ?_) (soles_no hc) hw
  show wpAny _ _ (assign (.Tuple es k p) env w) _ _ _
  exact assign_tuple K V V.own (fun _ _ => storeOk_all) R hn hb D' hw fun h2 tk2 led2 D2 e2 => hQ .next h2 tk2 γ' led2 D2 (e'.nil.trans e2) rfl
theorem At.congr {h : Heap} (D : At C env X γ led l o h) (hl : ∀ y, lk l' y = lk l y) : At C env X γ led l' o h := by
  obtain ⟨oL, m, h1, h2, h3⟩ := D.loc
  exact ⟨D.hold, D.rel, ⟨oL, m, h1, h2, fun x av e => h3 x av (by rw [← hl]; exact e)⟩, D.cel⟩
theorem ss_swap {e : PySem.Expr} {k : Nat} {x y : Nm} {p p1 p2 pos : Pos} {v1 v2 : AV} (K : C.Ok) (V : EnvOk env X) (hx : env.kindOf (toS x) = some .local) (hy : env.kindOf (toS y) = some .local) (hne : eqN x y = false) (hc : notComp e = true)
    (hw : swappedStores [.Tuple [.Name (toS x) p1, .Name (toS y) p2] k p] e env = pure (some [toS x, toS y]))
    (h : SE C nd env X (eval e env) l o (.tup [v1, v2]) o') : SS C nd env X (exec (.Assign [.Tuple [.Name (toS x) p1, .Name (toS y) p2] k p] e pos) env) l o .next (stv (stv l x v1) y v2) o' := by
  intro A s γ led Q E R D hQ
  refine Assign_Tuple_swapped (h A s γ led _ E R D fun w h' tk γ' led' D' e' hw => ?_) (soles_no hc) hw
  simp only [VR, VRs] at hw
  obtain ⟨a, ws, n, rfl, hs, w1, ws1, rfl, hw1, w2, ws2, rfl, hw2, rfl⟩ := hw
  have ne : x ≠ y := eqN_false.mp hne
  refine wpAny_unpackItems_tuple (s := ⟨h', s.gens, s.drawn, tk, s.os⟩) (items := #[w1, w2]) R.1 (tup_at K D'.hold hs) fun h2 he => ?_
  have D2 := D'.grow (h' := h2) V (extBut_keep he)
  show wpAny _ _ (assignInOrder [fun v => bindName env (toS y) v, fun v => bindName env (toS x) v] [w2, w1]) _ _ _
  refine wpAny_assignInOrder_more (wpAny_bindName (store_ok V (.inl hy) D2 hw2 fun h3 tk3 led3 D3 e3 => ?_))
  refine wpAny_assignInOrder_more (wpAny_bindName (store_ok V (.inl hx) D3 (VR.ext e3 V.own _ _ hw1) fun h4 tk4 led4 D4 e4 => ?_))
  refine wpAny_assignInOrder_none (hQ .next h4 tk4 γ' led4 (D4.congr fun z => ?_) (e'.nil.trans (e3.trans e4)) rfl)
  simp only [lk_stv]
  by_cases q1 : z = x
  · subst q1; simp [ne]
  · simp [q1]
theorem ss_asgA {fl : Nat → List Nm} {e c : PySem.Expr} {x : Nm} {p pos : Pos} {u : AV} (K : C.Ok) (Y : ClsOk C fl) (V : EnvOk env X) (hc : notComp e = true) (h : SE C nd env X (eval e env) l o r o₁) (h2 : SE C nd env X (eval c env) l o₁ u o₂) (hs : setAtt fl o₂ u x r = some o₃) :
    SS C nd env X (exec (.Assign [.Attribute c (toS x) p] e pos) env) l o .next l o₃ := by
  intro A s γ led Q E R D hQ
  refine plainObj_wpAny_Assign_Attribute (h A s γ led _ E R D fun w h' tk γ' led' D' e' hw => ?_) (swaps_no hc)
  refine h2 A _ γ' led' _ E R D' fun cv h2 tk2 γ2 led2 D2 e2 hcv => ?_
  exact setAtt_ok K Y V D2 hcv (VR.ext e2 (by simp) _ _ hw) hs fun h3 tk3 led3 D3 e3 => hQ .next h3 tk3 γ2 led3 D3 ((e'.trans e2).trans e3).nil rfl
theorem ss_asgS {e c i : PySem.Expr} {p pos : Pos} {u j : AV} (K : C.Ok) (V : EnvOk env X) (hc : notComp e = true) (h : SE C nd env X (eval e env) l o r o₁) (h2 : SE C nd env X (eval c env) l o₁ u o₂) (h3 : SE C nd env X (eval i env) l o₂ j o₃) (hs : setSub o₃ u j r = some o') :
    SS C nd env X (exec (.Assign [.Subscript c i p] e pos) env) l o .next l o' := by
  intro A s γ led Q E R D hQ
  refine wpAny_Assign_Subscript (h A s γ led _ E R D fun w h' tk γ' led' D' e' hw => ?_) (swaps_no hc)
  refine h2 A _ γ' led' _ E R D' fun cv h2 tk2 γ2 led2 D2 e2 hcv => ?_
  refine h3 A _ γ2 led2 _ E R D2 fun jv h4 tk4 γ4 led4 D4 e4 hjv => ?_
  exact setSub_ok K V D4 (VR.ext e4 (by simp) _ _ hcv) hjv (VR.ext (e2.trans e4) (by simp) _ _ hw) hs fun h5 tk5 led5 D5 e5 => hQ .next h5 tk5 γ4 led5 D5 (((e'.trans e2).trans e4).trans e5).nil rfl
theorem ss_if {t : PySem.Expr} {a b : List Stmt} {pos : Pos} {c : Bool} (h1 : ST C nd env X (isTrue t env (eval t env)) l o c o₁) (h2 : c = true → SS C nd env X (execs a env) l o₁ fl l' o') (h3 : c = false → SS C nd env X (execs b env) l o₁ fl l' o') :
    SS C nd env X (exec (.If t a b pos) env) l o fl l' o' := by
  intro A s γ led Q E R D hQ
  refine wpAny_If (h1 A s γ led _ E R D fun h' tk γ' led' D' e' => ?_)
  cases c with
  | true => exact h2 rfl A _ γ' led' Q E R D' fun f h2 tk2 γ2 led2 D2 e2 hf => hQ f h2 tk2 γ2 led2 D2 (e'.nil.trans e2) hf
  | false => exact h3 rfl A _ γ' led' Q E R D' fun f h2 tk2 γ2 led2 D2 e2 hf => hQ f h2 tk2 γ2 led2 D2 (e'.nil.trans e2) hf
theorem ss_try {body : List Stmt} {h₀ : ExceptHandler} {hs : List ExceptHandler} {pos : Pos} (h : SS C nd env X (execs body env) l o fl l' o') : SS C nd env X (exec (.Try body (h₀ :: hs) [] [] pos) env) l o fl l' o' := by
  intro A s γ led Q E R D hQ
  refine wpAny_Try_except (h A s γ led _ _ R D fun f h' tk γ' led' D' e' hf => ?_)
  cases fl with
  | next =>
    simp only [FR] at hf
    subst hf
    exact wpAny_execs_nil (hQ .next h' tk γ' led' D' e' rfl)
  | ret w =>
    obtain ⟨u, rfl, hu⟩ := hf
    exact hQ (.ret u) h' tk γ' led' D' e' ⟨u, rfl, hu⟩
theorem ss_while {t : PySem.Expr} {b : List Stmt} {pos : Pos} {tv : TV} {bv : SV} (ht : ∀ l o c o', tv l o = some (c, o') → ST C nd env X (isTrue t env (eval t env)) l o c o') (hb : ∀ l o fl l' o', bv l o = some (fl, l', o') → SS C nd env X (execs b env) l o fl l' o')
    {n : Nat} (h : whGo tv bv n l o = some (fl, l', o')) : SS C nd env X (exec (.While t b [] pos) env) l o fl l' o' := by
  intro A s γ led Q E R D hQ
  refine wpAny_While ?_
  refine codeAny_whileLoop (I := fun k s' => ∃ h₁ tk₁ γ₁ led₁ l₁ o₁, s' = { s with heap := h₁, toks := tk₁ } ∧ At C env X γ₁ led₁ l₁ o₁ h₁ ∧ Ext (ownE env) γ led γ₁ led₁ ∧ whGo tv bv k l₁ o₁ = some (fl, l', o')) ?_ n ⟨s.heap, s.toks, γ, led, l, o, rfl, D, .refl, h⟩
  rintro k s' ⟨h₁, tk₁, γ₁, led₁, l₁, o₁, rfl, D₁, e₁, hg⟩
  cases k with
  | zero => exact nsM hg
  | succ k =>
    refine oz hg (fun o2 hc hg => ?_) fun o2 hc hg => ?_
    · refine ht _ _ _ _ hc A _ γ₁ led₁ _ _ R D₁ fun h2 tk2 γ2 led2 D2 e2 => ?_
      simp only [if_true]
      refine ox hg (fun l3 o3 hbv hg => ?_) fun w l3 o3 hbv hg => ?_
      · refine hb _ _ _ _ _ hbv A _ γ2 led2 _ _ R D2 fun f h3 tk3 γ3 led3 D3 e3 hf => ?_
        cases hf
        exact ⟨k, Nat.lt_succ_self k, h3, tk3, γ3, led3, _, _, rfl, D3, (e₁.trans e2.nil).trans e3, hg⟩
      · cases hg
        refine hb _ _ _ _ _ hbv A _ γ2 led2 _ _ R D2 fun f h3 tk3 γ3 led3 D3 e3 hf => ?_
        obtain ⟨u, rfl, hu⟩ := hf
        exact hQ (.ret u) h3 tk3 γ3 led3 D3 ((e₁.trans e2.nil).trans e3) ⟨u, rfl, hu⟩
    · cases hg
      refine ht _ _ _ _ hc A _ γ₁ led₁ _ _ R D₁ fun h2 tk2 γ2 led2 D2 e2 => ?_
      exact wpAny_execs_nil (hQ .next h2 tk2 γ2 led2 D2 (e₁.trans e2.nil) rfl)
end
end
section
inductive Kd where
  | tup (a : Addr) (vs : List Value) (n : Nat) (xs : List AV)
  | list (i : Nat) (a : Addr)
  | fd (a : Addr) (es : List DictEntry) (n : Nat) (ks : List Nm) (vs : List Value)
  | dict (i : Nat) (a : Addr) (len ep : Nat)
  | str (l : Nm) (t : Tok)
  | rng (n : Nat)
noncomputable def Kd.src : Kd → Src
  | .tup _ _ _ xs => .items xs
  | .list i _ => .list i
  | .fd _ _ _ ks _ => .items (mapA ks)
  | .dict i _ n ep => .dict i n ep
  | .str l _ => .items (l.map fun c => .str [c])
  | .rng n => .items (rangeA n)
noncomputable def Kd.typ : Kd → String
  | .tup .. => "tuple_iterator"
  | .list .. => "list_iterator"
  | .fd .. => "dict_keyiterator"
  | .dict .. => "dict_keyiterator"
  | .str l _ => if (toS l).cps.all (· < 128) then "str_ascii_iterator" else "str_iterator"
  | .rng .. => "range_iterator"
noncomputable def Kd.dat (k : Nat) : Kd → Array Value
  | .tup a _ _ _ => #[.ref a, .int k 0]
  | .list _ a => #[.ref a, .int k 0]
  | .fd a es n _ _ => #[.ref a, .int k 0, .int es.length 0, .int n 0]
  | .dict _ a n ep => #[.ref a, .int k 0, .int n 0, .int ep 0]
  | .str l t => #[.str (toS l) t, .int k 0]
  | .rng n => #[rawInt (0 + (k : Int) * 1), rawInt ((n : Int) - (k : Int)), rawInt 1]
noncomputable def Kd.exact : Kd → Bool
  | .rng _ => true
  | _ => false
noncomputable def Kd.obj (K : Kd) (k : Nat) (io : Obj) : Prop := io.cls = .type K.typ ∧ io.data = .fields (K.dat k) ∧ (K.exact = true → io = { cls := .type K.typ, data := .fields (K.dat k) })
noncomputable def Kd.facts (C : Cfg) (X γ : List Addr) (led : Led) : Kd → Prop
  | .tup a vs n xs => Stb C X γ led a (tupO vs n) ∧ VRs C X γ led xs vs
  | .list i a => γ[i]? = some a
  | .fd a es n ks vs => Stb C X γ led a (dictOf es n) ∧ Ents C.w es ks vs ∧ ks.Nodup
  | .dict i a _ _ => γ[i]? = some a
  | .str _ _ => True
  | .rng _ => True
noncomputable def ItSt (C : Cfg) (X : List Addr) (it : Addr) (K : Kd) (k : Nat) (γ : List Addr) (led : Led) : Prop := K.facts C X γ led ∧ ∃ io, (it, io) ∈ led ∧ K.obj k io
section
variable {C : Cfg} {X X' γ γ' own : List Addr} {led led' : Led}
theorem Kd.facts_map {K : Kd} (hS : ∀ a o, Stb C X γ led a o → Stb C X' γ' led' a o) (hγ : ∀ (i : Nat) (a : Addr), γ[i]? = some a → γ'[i]? = some a) (h : K.facts C X γ led) : K.facts C X' γ' led' := by
  cases K with
  | tup a vs n xs => exact ⟨hS _ _ h.1, VRs.map hS hγ _ _ h.2⟩
  | list i a => exact hγ _ _ h
  | fd a es n ks vs => exact ⟨hS _ _ h.1, h.2⟩
  | dict i a n ep => exact hγ _ _ h
  | str l t => trivial
  | rng n => trivial
end
structure IterOk (C : Cfg) (nd : Nat) (env : Env) (X : List Addr) (it : Addr) (W : List Addr) (src : Src) (St : Nat → List Addr → Led → Prop) (Md : Nat → Value → List Addr → Led → Prop) (TG : PySem.Expr → Prop) : Prop where
  own : ∀ x ∈ W, x ∈ X ∧ x ∉ ownE env
  stay : ∀ {k γ led γ' led' own}, St k γ led → (∀ a ∈ γ, a ∉ X) → Ext own γ led γ' led' → (∀ x ∈ own, x ∈ X ∧ x ∉ W) → St k γ' led'
  item : ∀ {A s γ led l o k av Q E}, Room A nd → At C env X γ led l o s.heap → St k γ led → srcItem o k src = some (some av) →
    (∀ vv h' tk led', At C env X γ led' l o h' → Ext W γ led γ led' → Md k vv γ led' → VR C X γ led' av vv → Q (some vv) { s with heap := h', toks := tk }) → wpAny (model C.prog C.w) A (pyNext (.ref it)) Q E s
  go : ∀ {A s γ led l o k vv tgt Q E}, TG tgt → At C env X γ led l o s.heap → Md k vv γ led → (∀ h' led', At C env X γ led' l o h' → Ext W γ led γ led' → St (k + 1) γ led' → Q () { s with heap := h' }) →
    wpAny (model C.prog C.w) A (letOwnedTupleGo tgt (.ref it) vv) Q E s
  done : ∀ {A s γ led l o k Q E}, Room A nd → At C env X γ led l o s.heap → St k γ led → srcItem o k src = some none →
    (∀ h' tk, (∀ b y, b ∉ W → s.heap.get? b = some y → h'.get? b = some y) → Q none { s with heap := h', toks := tk }) → wpAny (model C.prog C.w) A (pyNext (.ref it)) Q E s
section
variable {C : Cfg} {nd : Nat} {env : Env} {X γ : List Addr} {led : Led} {l : Loc} {o : Objs} {A : Around} {s : Shared} {E : Value → Shared → Prop}
theorem At.poke {d : Addr} {ob : Obj} {h h' : Heap} (V : EnvOk env X) (D : At C env X γ led l o h) (hd : d ∈ keys led) (hX : d ∈ X) (hn : d ∉ ownE env) (hs : ∀ b y, b ≠ d → h.get? b = some y → h'.get? b = some y) (hg : h'.get? d = some ob) (hq : C.H.objs.size ≤ d) :
    At C env X γ (upd led d ob) l o h' ∧ Ext [d] γ led γ (upd led d ob) := by
  have e1 : Ext [d] γ led γ (upd led d ob) := one_ext
  have ho : ∀ y ∈ [d], y ∈ X := by simp [hX]
  have hL : d ≠ env.locals := fun e => hn (by rw [e]; simp [ownE])
  have hC : ∀ n c, env.cells.lookup n = some c → d ≠ c := fun n c hc e => hn (by rw [e]; exact List.mem_cons_of_mem _ (mem_lookup hc))
  refine ⟨⟨D.hold.put hd hs hg hq, D.rel.ext (own := [d]) ho (fun p hp hne => mem_upd_ne hp (by simpa using hne)) (fun a ha => by rw [keys_upd]; exact ha), D.loc.ext V D.rel e1 ho (fun x hx => ?_), fun n c hc => ?_⟩, e1⟩
  · have hxd : x = d := by simpa using hx
    subst hxd
    exact ⟨hL, hC⟩
  · obtain ⟨oc, ov, hm, hd'⟩ := D.cel n c hc
    exact ⟨oc, ov, mem_upd_ne hm (Ne.symm (hC n c hc)), hd'⟩
theorem go_plain {it : Addr} {io : Obj} {T : String} {vv : Value} {tgt : PySem.Expr} {Q : Unit → Shared → Prop} (hg : s.heap.get? it = some io) (hc : io.cls = .type T) (hT : (["enumerate", "zip", "dict_itemiterator", "dict_reverseitemiterator", "odict_iterator", "itertools.zip_longest", "itertools.pairwise"].contains T) = false) (h : Q () s) :
    wpAny (model C.prog C.w) A (letOwnedTupleGo tgt (.ref it) vv) Q E s := by
  have base : wpAny (model C.prog C.w) A (do
      let (.ref r, .ref a) := ((.ref it : Value), vv) | return
      let o ← load r
      match o.cls, o.data with
      | .type n, .fields vs =>
        if ["enumerate", "zip", "dict_itemiterator", "dict_reverseitemiterator", "odict_iterator", "itertools.zip_longest", "itertools.pairwise"].contains n && vs[0]? == some (rawInt a) then
          rule "for.unpacks-the-owned-tuple"
          updateField r 0 .none
      | _, _ => pure ()) Q E s := by
    cases vv with
    | ref a =>
      refine wpAny_bind (wpAny_load hg ?_)
      rw [hc]
      cases io.data <;> dsimp only <;> first | (simp only [hT, Bool.false_and, Bool.false_eq_true, if_false]; exact wpAny_pure h) | exact wpAny_pure h
    | _ => exact wpAny_pure h
  unfold letOwnedTupleGo
  cases tgt <;> first | exact wpAny_pure h | exact base
theorem sizes {l : Nm} : (toS l).cps.size = l.length := by simp [toS]
theorem kvs_len {es : List DictEntry} {ks : List Nm} {vs : List Value} (he : Ents C.w es ks vs) : (kvs ks vs).length = ks.length := by unfold kvs; simp [he.length]
theorem dict_next {it d : Addr} {es : List DictEntry} {n k : Nat} {ks : List Nm} {vs : List Value} {io : Obj} {av : AV} {Q : Option Value → Shared → Prop} (he : Ents C.w es ks vs) (hn : ks.Nodup) (ho : s.heap.get? d = some (dictOf es n)) (g : s.heap.get? it = some io) (hc : io.cls = .type "dict_keyiterator") (hd : io.data = .fields #[.ref d, .int k 0, .int ks.length 0, .int n 0]) (hk : ks[k]?.map AV.str = some av)
    (fin : ∀ vv h', VR C X γ led av vv → Heap.SameBut it s.heap h' → (∃ io', h'.get? it = some io' ∧ io'.cls = .type "dict_keyiterator" ∧ io'.data = .fields #[.ref d, .int (k + 1 : Nat) 0, .int ks.length 0, .int n 0]) → Q (some vv) { s with heap := h' }) : wpAny (model C.prog C.w) A (pyNext (.ref it)) Q E s := by
  obtain ⟨nm, hnm, rfl⟩ := Option.map_eq_some_iff.mp hk
  have hkv := kvs_len he
  obtain ⟨w, hw⟩ : ∃ w, vs[k]? = some w := by
    have := (List.getElem?_eq_some_iff.mp hnm).1
    exact ⟨vs[k]'(by rw [he.length.2]; exact this), List.getElem?_eq_getElem _⟩
  have hx' : (kvs ks vs)[k]? = some (toS nm, w) := by unfold kvs; simp [List.getElem?_zip_eq_some, hnm, hw]
  refine wpAny_pyNext_dict_item (i := k) (k := toS nm) (v := w) ⟨io, g, hc, ?_⟩ (he.dictAt (prog := C.prog) hn ho) hx' fun key h' hkey hi hs => ?_
  · rw [hd, hkv]
  · rw [hkv] at hi
    obtain ⟨t, rfl⟩ : ∃ t, key = .str (toS nm) t := by
      change Value.isStrOf (toS nm) key = true at hkey
      cases key <;> first | exact nfB hkey | exact ⟨_, congrArg (Value.str · _) (eq_of_beq hkey)⟩
    exact fin _ h' ⟨t, rfl⟩ hs hi
theorem dict_stop {it d : Addr} {es : List DictEntry} {n k : Nat} {ks : List Nm} {vs : List Value} {io : Obj} {Q : Option Value → Shared → Prop} (R : Room A nd) (he : Ents C.w es ks vs) (hn : ks.Nodup) (ho : s.heap.get? d = some (dictOf es n)) (g : s.heap.get? it = some io) (hc : io.cls = .type "dict_keyiterator") (hd : io.data = .fields #[.ref d, .int k 0, .int ks.length 0, .int n 0]) (hk : ks[k]?.map AV.str = none)
    (fin : ∀ h', Heap.ExtBut it s.heap h' → Q none { s with heap := h' }) : wpAny (model C.prog C.w) A (pyNext (.ref it)) Q E s := by
  have hkv := kvs_len he
  refine wpAny_pyNext_dict_end (i := k) R.1 ⟨io, g, hc, ?_⟩ (he.dictAt (prog := C.prog) hn ho) ?_ fin
  · rw [hd, hkv]
  · rw [List.getElem?_eq_none_iff, hkv]; simpa using hk
theorem dict_src {i k len ep : Nat} {a : Addr} {q : Option AV} (R : Rel C X γ led o) (hi : γ[i]? = some a) (h : srcItem o k (.dict i len ep) = some q) :
    ∃ ks es vs, (a, dictOf es ep) ∈ led ∧ Ents C.w es ks vs ∧ ks.Nodup ∧ len = ks.length ∧ ks[k]?.map AV.str = q := by
  refine oa h fun oc ho h => ob h fun ks p hp h => oa h fun ep' hep h => ot h fun hb h => ?_
  cases jDct_ok (xs := p.1) (ep := p.2) hp
  obtain ⟨b1, b2⟩ := and2 hb
  cases Nat.eq_of_beq_eq_true b1
  obtain ⟨es, m, vs, hm2, hep', he, hn, hxs⟩ := R.has _ _ _ ho hi
  cases hep' _ hep
  exact ⟨ks, es, vs, hm2, he, hn, Nat.eq_of_beq_eq_true b2, Option.some.inj ‹some _ = some q›⟩
theorem kd_item {it : Addr} {K : Kd} {k : Nat} {av : AV} {Q : Option Value → Shared → Prop} (KO : C.Ok) (D : At C env X γ led l o s.heap) (S : ItSt C X it K k γ led) (h : srcItem o k K.src = some (some av))
    (hQ : ∀ vv h' tk io', h'.get? it = some io' → K.obj (k + 1) io' → (∀ b y, b ≠ it → s.heap.get? b = some y → h'.get? b = some y) → VR C X γ led av vv → Q (some vv) { s with heap := h', toks := tk }) :
    wpAny (model C.prog C.w) A (pyNext (.ref it)) Q E s := by
  obtain ⟨F, io, hm, hc, hd, hx⟩ := S
  have g := D.hold.at_ _ hm
  have fin : ∀ {vv : Value} {h' : Heap} {tk : Nat}, Heap.SameBut it s.heap h' → (∃ io', h'.get? it = some io' ∧ io'.cls = .type K.typ ∧ io'.data = .fields (K.dat (k + 1))) → K.exact = false → VR C X γ led av vv → Q (some vv) { s with heap := h', toks := tk } := by
    intro vv h' tk hs ⟨io', h1, h2, h3⟩ hex hv
    exact hQ vv h' tk io' h1 ⟨h2, h3, fun e => by rw [hex] at e; cases e⟩ (fun b y hb hy => (hs.2 b hb).trans hy) hv
  cases K with
  | tup a vs n xs =>
    have hk : xs[k]? = some av := Option.some.inj h
    obtain ⟨w, hw, hr⟩ := F.2.get hk
    exact wpAny_pyNext_tuple_item ⟨io, g, hc, hd⟩ (tup_at KO D.hold F.1) (x := w) (by simpa using hw) fun h' hi hs => fin (tk := s.toks) hs hi rfl hr
  | list i a =>
    refine oa h fun oc ho h => oa h fun xs hx h1 => ?_
    cases jLst_ok hx
    obtain ⟨vs, ob, hm2, hlo, hxs⟩ := D.rel.has _ _ _ ho F
    obtain ⟨w, hw, hr⟩ := hxs.get (Option.some.inj h1)
    exact wpAny_pyNext_list_item ⟨io, g, hc, hd⟩ (list_at D.hold hm2 hlo.1) (x := w) (by simpa using hw) fun h' hi hs => fin (tk := s.toks) hs hi rfl hr
  | fd a es n ks vs =>
    obtain ⟨F1, F2, F3⟩ := F
    have hk : (ks.map fun k => AV.str k)[k]? = some av := Option.some.inj h
    rw [List.getElem?_map] at hk
    have fin' := @fin
    simp only [Kd.dat, F2.length.1] at hd fin'
    exact dict_next F2 F3 (F1.get KO D.hold) g hc hd hk fun vv h' hr hs hi => fin' hs hi rfl hr
  | dict i a len ep =>
    obtain ⟨ks, es, vs, hm2, he, hn, rfl, hk⟩ := dict_src D.rel F h
    exact dict_next he hn (D.hold.at_ _ hm2) g hc hd hk fun vv h' hr hs hi => fin hs hi rfl hr
  | str x t =>
    have hk : (x.map fun c => AV.str [c])[k]? = some av := Option.some.inj h
    rw [List.getElem?_map] at hk
    obtain ⟨c, hcc, rfl⟩ := Option.map_eq_some_iff.mp hk
    have hcs : (toS x).cps[k]? = some c := by simpa [toS] using hcc
    cases ha : (toS x).cps.all (· < 128) with
    | true =>
      have ht : (Kd.str x t).typ = "str_ascii_iterator" := by simp only [Kd.typ, ha, if_true]
      refine wpAny_pyNext_ascii_item ⟨io, g, by rw [hc, ht], hd⟩ hcs fun h' hi hs => fin hs ?_ rfl ⟨_, rfl⟩
      rw [ht]; exact hi
    | false =>
      have ht : (Kd.str x t).typ = "str_iterator" := by simp only [Kd.typ, ha]; rfl
      refine wpAny_pyNext_wide_item ⟨io, g, by rw [hc, ht], hd⟩ hcs fun h' hi hs => fin hs ?_ rfl ⟨_, rfl⟩
      rw [ht]; exact hi
  | rng n =>
    have hk : ((List.range n).map fun i => AV.int (.ofNat i))[k]? = some av := Option.some.inj h
    rw [List.getElem?_map] at hk
    obtain ⟨c, hcc, rfl⟩ := Option.map_eq_some_iff.mp hk
    have hlt := (List.getElem?_eq_some_iff.mp hcc).1
    have hce : c = k := by rw [List.getElem?_range (by simpa using hlt)] at hcc; exact (Option.some.inj hcc).symm
    subst hce
    have g2 := g
    rw [hx rfl] at g2
    simp only [List.length_range] at hlt
    refine wpAny_pyNext_range_item g2 (by omega) fun h' hi hs => ?_
    have e1 : (0 : Int) + (c : Int) * 1 + 1 = 0 + ((c + 1 : Nat) : Int) * 1 := by push_cast; omega
    have e2 : (n : Int) - (c : Int) - 1 = (n : Int) - ((c + 1 : Nat) : Int) := by push_cast; omega
    rw [e1, e2] at hi
    refine hQ _ h' _ _ hi ⟨rfl, rfl, fun _ => rfl⟩ (fun b y hb hy => (hs.2 b hb).trans hy) ⟨s.toks, ?_⟩
    have : (0 : Int) + (c : Int) * 1 = Int.ofNat c := by simp
    rw [this]
theorem kd_done {it : Addr} {K : Kd} {k : Nat} {Q : Option Value → Shared → Prop} (KO : C.Ok) (R : Room A nd) (D : At C env X γ led l o s.heap) (S : ItSt C X it K k γ led) (h : srcItem o k K.src = some none)
    (hQ : ∀ h' tk, (∀ b y, b ∉ [it] → s.heap.get? b = some y → h'.get? b = some y) → Q none { s with heap := h', toks := tk }) :
    wpAny (model C.prog C.w) A (pyNext (.ref it)) Q E s := by
  obtain ⟨F, io, hm, hc, hd, hx⟩ := S
  have g := D.hold.at_ _ hm
  have fin : ∀ {h' : Heap}, Heap.ExtBut it s.heap h' → Q none { s with heap := h' } := fun {h'} he => hQ h' s.toks fun b y hb hy => he b y (by simpa using hb) hy
  cases K with
  | tup a vs n xs =>
    have hk : xs[k]? = none := Option.some.inj h
    have hl := F.2.length
    exact wpAny_pyNext_tuple_end R.1 ⟨io, g, hc, hd⟩ (tup_at KO D.hold F.1) (by simp at hk ⊢; omega) fun h' he => fin he
  | list i a =>
    refine oa h fun oc ho h => oa h fun xs hx h1 => ?_
    cases jLst_ok hx
    have hk : xs[k]? = none := Option.some.inj h1
    obtain ⟨vs, ob, hm2, hlo, hxs⟩ := D.rel.has _ _ _ ho F
    have hl := hxs.length
    exact wpAny_pyNext_list_end R.1 ⟨io, g, hc, hd⟩ (list_at D.hold hm2 hlo.1) (by simp at hk ⊢; omega) fun h' he => fin he
  | fd a es n ks vs =>
    obtain ⟨F1, F2, F3⟩ := F
    have hk : (ks.map fun k => AV.str k)[k]? = none := Option.some.inj h
    rw [List.getElem?_map] at hk
    simp only [Kd.dat, F2.length.1] at hd
    exact dict_stop R F2 F3 (F1.get KO D.hold) g hc hd hk fun h' he => fin he
  | dict i a len ep =>
    obtain ⟨ks, es, vs, hm2, he, hn, rfl, hk⟩ := dict_src D.rel F h
    exact dict_stop R he hn (D.hold.at_ _ hm2) g hc hd hk fun h' he => fin he
  | str x t =>
    have hk : (x.map fun c => AV.str [c])[k]? = none := Option.some.inj h
    have hcs : (toS x).cps[k]? = none := by simp [toS] at hk ⊢; omega
    cases ha : (toS x).cps.all (· < 128) with
    | true =>
      have ht : (Kd.str x t).typ = "str_ascii_iterator" := by simp only [Kd.typ, ha, if_true]
      exact wpAny_pyNext_ascii_end R.1 ⟨io, g, by rw [hc, ht], hd⟩ hcs fun h' he => fin he
    | false =>
      have ht : (Kd.str x t).typ = "str_iterator" := by simp only [Kd.typ, ha]; rfl
      exact wpAny_pyNext_wide_end R.1 ⟨io, g, by rw [hc, ht], hd⟩ hcs fun h' he => fin he
  | rng n =>
    have hk : ((List.range n).map fun i => AV.int (.ofNat i))[k]? = none := Option.some.inj h
    have g2 := g
    rw [hx rfl] at g2
    simp at hk
    exact wpAny_pyNext_range_end R.1 g2 (by omega) fun h' he => fin he
theorem kd_typ (K : Kd) : (["enumerate", "zip", "dict_itemiterator", "dict_reverseitemiterator", "odict_iterator", "itertools.zip_longest", "itertools.pairwise"].contains K.typ) = false := by
  cases K <;> first | (simp [Kd.typ]; done) | (simp only [Kd.typ]; split <;> simp)
theorem kd_iter {it : Addr} {K : Kd} (KO : C.Ok) (V : EnvOk env X) (hX : it ∈ X) (hn : it ∉ ownE env) : IterOk C nd env X it [it] K.src (ItSt C X it K) (fun k _ γ led => ItSt C X it K (k + 1) γ led) (fun _ => True) where
  own := fun x hx => by have : x = it := by simpa using hx
                        subst this; exact ⟨hX, hn⟩
  stay := fun {k γ led γ' led' own} S ha e ho => by
    obtain ⟨F, io, hm, hob⟩ := S
    refine ⟨K.facts_map (fun a ob h => h.ext e fun x hx => (ho x hx).1) (fun i a h => pre_get e h) F, io, e.stay _ hm (fun q => ha _ q hX) (fun q => (ho _ q).2 (by simp)), hob⟩
  item := fun {A s γ led l o k av Q E} R D S h hQ => by
    refine kd_item KO D S h fun vv h' tk io' h1 h2 h3 h4 => ?_
    obtain ⟨F, io, hm, hob⟩ := S
    obtain ⟨D2, e2⟩ := D.poke V (mem_keys hm) hX hn h3 h1 (D.hold.up hm (fields_noseq hob.2.1))
    refine hQ vv h' tk _ D2 e2 ⟨K.facts_map (fun a ob h => h.ext e2 (by simp [hX])) (fun i a h => pre_get e2 h) F, io', mem_upd_self (mem_keys hm), h2⟩ (VR.ext e2 (by simp [hX]) _ _ h4)
  go := fun {A s γ led l o k vv tgt Q E} _ D S hQ => by
    obtain ⟨F, io, hm, hob⟩ := id S
    exact go_plain (D.hold.at_ _ hm) hob.1 (kd_typ K) (hQ s.heap led D .refl S)
  done := fun {A s γ led l o k Q E} R D S h hQ => kd_done KO R D S h hQ
end
end
section
section
variable {C : Cfg} {nd : Nat} {env : Env} {X W γ γ₀ : List Addr} {led led₀ led' : Led} {l l' : Loc} {o o' o₁ : Objs} {fl : FL} {A : Around} {s : Shared} {E : Value → Shared → Prop}
theorem EnvOk.more {P : List Addr} (V : EnvOk env X) : EnvOk env (P ++ X) where
  kind := V.kind
  globals := V.globals
  builtins := V.builtins
  loc := List.mem_append_right _ V.loc
  cells := fun n c h => ⟨List.mem_append_right _ (V.cells n c h).1, (V.cells n c h).2⟩
  inj := V.inj
  allc := fun p hp => List.mem_append_right _ (V.allc p hp)
  hasc := V.hasc
theorem At.protect {P : List Addr} {h h' : Heap} (D : At C env X γ led l o h) (hP : ∀ a ∈ P, a ∉ keys led) (hsub : ∀ p ∈ led, p ∈ led') (hin : ∀ a ∈ P, a ∈ keys led') (H : Hold C h' led') : At C env (P ++ X) γ led' l o h' := by
  obtain ⟨oL, m, h1, h2, h3⟩ := D.loc
  refine ⟨H, D.rel.protect hP hsub hin, ⟨oL, m, hsub _ h1, h2, fun x av hl => ⟨fun hk => ?_, fun hk => ?_⟩⟩, fun n c hc => ?_⟩
  · obtain ⟨v, a, b⟩ := (h3 x av hl).1 hk
    exact ⟨v, a, VR.map (fun _ _ => Stb.protect hP hsub) (fun _ _ e => e) _ _ b⟩
  · obtain ⟨c, oc, v, a, b, d, f⟩ := (h3 x av hl).2 hk
    exact ⟨c, oc, v, a, hsub _ b, d, VR.map (fun _ _ => Stb.protect hP hsub) (fun _ _ e => e) _ _ f⟩
  · obtain ⟨oc, ov, hm, hd⟩ := D.cel n c hc
    exact ⟨oc, ov, hsub _ hm, hd⟩
noncomputable def lose (W : List Addr) (led : Led) : Led := led.filter fun p => decide (p.1 ∉ W)
theorem mem_lose {W : List Addr} {p : Addr × Obj} : p ∈ lose W led ↔ p ∈ led ∧ p.1 ∉ W := by simp [lose]
theorem Stb.lose {a : Addr} {ob : Obj} (h : Stb C (W ++ X) γ led a ob) : Stb C X γ (lose W led) a ob := by
  rcases h with h | ⟨h1, h2, h3⟩
  · exact .inl h
  · exact .inr ⟨mem_lose.mpr ⟨h1, fun q => h3 (List.mem_append_left _ q)⟩, h2, fun q => h3 (List.mem_append_right _ q)⟩
theorem At.drop {h h' : Heap} (V : EnvOk env X) (D : At C env (W ++ X) γ led l o h) (hWX : ∀ a ∈ W, a ∉ X) (hk : ∀ b y, b ∉ W → h.get? b = some y → h'.get? b = some y) (hH : ∀ a ∈ W, C.H.objs.size ≤ a) : At C env X γ (lose W led) l o h' := by
  obtain ⟨oL, m, h1, h2, h3⟩ := D.loc
  have out : ∀ a ∈ X, a ∉ W := fun a ha q => hWX a q ha
  refine ⟨⟨fun p hp => ?_, ?_, fun p hp => D.hold.above p (mem_lose.mp hp).1, fun b y e => ?_⟩, ⟨D.rel.len, D.rel.nodup, fun a ha q => D.rel.apart a ha (List.mem_append_right _ q), fun a ha => ?_, fun i ob a e1 e2 => ?_⟩, ⟨oL, m, mem_lose.mpr ⟨h1, out _ V.loc⟩, h2, fun x av hl => ⟨fun hk => ?_, fun hk => ?_⟩⟩, fun n c hc => ?_⟩
  · exact hk _ _ (mem_lose.mp hp).2 (D.hold.at_ _ (mem_lose.mp hp).1)
  · exact D.hold.nodup.sublist (List.Sublist.map _ List.filter_sublist)
  · refine hk b y (fun q => ?_) (D.hold.keep b y e)
    exact Nat.lt_irrefl _ (Nat.lt_of_lt_of_le (Heap.lt_size e) (hH b q))
  · obtain ⟨p, hp, rfl⟩ := List.mem_map.mp (D.rel.inled a (List.mem_append_right _ ha))
    exact mem_keys (mem_lose.mpr ⟨hp, out _ ha⟩)
  · exact (D.rel.has i ob a e1 e2).map (fun _ _ => Stb.lose) (fun _ _ e => e) fun ob' hm => mem_lose.mpr ⟨hm, fun q => D.rel.apart a (List.mem_of_getElem? e2) (List.mem_append_left _ q)⟩
  · obtain ⟨v, a, b⟩ := (h3 x av hl).1 hk
    exact ⟨v, a, VR.map (fun _ _ => Stb.lose) (fun _ _ e => e) _ _ b⟩
  · obtain ⟨c, oc, v, a, b, d, f⟩ := (h3 x av hl).2 hk
    exact ⟨c, oc, v, a, mem_lose.mpr ⟨b, out _ (V.cells _ _ a).1⟩, d, VR.map (fun _ _ => Stb.lose) (fun _ _ e => e) _ _ f⟩
  · obtain ⟨oc, ov, hm, hd⟩ := D.cel n c hc
    exact ⟨oc, ov, mem_lose.mpr ⟨hm, out _ (V.cells _ _ hc).1⟩, hd⟩
theorem FR.lose {f : Flow} (h : FR C (W ++ X) γ led fl f) : FR C X γ (lose W led) fl f := by
  cases fl with
  | next => exact h
  | ret v =>
    obtain ⟨w, h1, h2⟩ := h
    exact ⟨w, h1, VR.map (fun _ _ => Stb.lose) (fun _ _ e => e) _ _ h2⟩
theorem Ext.lose {own : List Addr} (e : Ext own γ₀ led₀ γ led) (hW : ∀ a ∈ W, a ∉ Mine.keys led₀) : Ext own γ₀ led₀ γ (lose W led) where
  pre := e.pre
  stay := fun p hp hg ho => mem_lose.mpr ⟨e.stay p hp hg ho, fun q => hW _ q (mem_keys hp)⟩
  keys := fun a ha => by
    obtain ⟨p, hp, rfl⟩ := List.mem_map.mp (e.keys a ha)
    exact mem_keys (mem_lose.mpr ⟨hp, fun q => hW _ q ha⟩)
noncomputable def TgtOk (env : Env) (t : PySem.Expr) (xs : List Nm) : Prop :=
  (∃ x pos, xs = [x] ∧ t = .Name (toS x) pos ∧ (env.kindOf (toS x) = some .local ∨ env.kindOf (toS x) = some .cell)) ∨
  (∃ es k pos, t = .Tuple es k pos ∧ NmExps env es xs ∧ ∀ x, xs ≠ [x])
theorem bindT_tup {xs : List Nm} (h : ∀ x, xs ≠ [x]) {v : AV} {l l' : Loc} (e : bindT xs v l = some l') : ∃ vs, v = .tup vs ∧ bindGo xs vs l = some l' := by
  have main : bindV xs v l = some l' → ∃ vs, v = .tup vs ∧ bindGo xs vs l = some l' := fun e => oa e fun vs hv e => ⟨vs, jTup_ok hv, e⟩
  match xs, h, e, main with
  | [], _, e, main => exact main e
  | [x], h, _, _ => exact absurd rfl (h x)
  | _ :: _ :: _, _, e, main => exact main e
theorem tgt_ok {t : PySem.Expr} {xs : List Nm} {av : AV} {v : Value} {own : List Addr} {Q : Unit → Shared → Prop} (K : C.Ok) (V : EnvOk env X) (hOX : ∀ y ∈ own, y ∈ X) (hS : ∀ x ∈ xs, StoreOk env own x) (R : Room A nd) (T : TgtOk env t xs) (hb : bindT xs av l = some l') (D : At C env X γ led l o s.heap) (hv : VR C X γ led av v)
    (hQ : ∀ h' tk led', At C env X γ led' l' o h' → Ext own γ led γ led' → Q () { s with heap := h', toks := tk }) : wpAny (model C.prog C.w) A (assign t env v) Q E s := by
  rcases T with ⟨x, pos, rfl, rfl, hk⟩ | ⟨es, k, pos, rfl, hn, h1⟩
  · cases hb
    exact assign_name V (hS _ (.head _)) hk D hv hQ
  · obtain ⟨vs, rfl, hb2⟩ := bindT_tup h1 hb
    exact assign_tuple K V hOX hS R hn hb2 D hv hQ
theorem Ext.into {γa γb own : List Addr} {la lb : Led} (x : Ext W γa la γb lb) (hx : ∀ a ∈ W, a ∉ Mine.keys led₀) (y : Ext own γ₀ led₀ γa la) : Ext own γ₀ led₀ γb lb := by
  refine ⟨?_, fun p hp hgm ho => ?_, fun a ha => x.keys a (y.keys a ha)⟩
  · obtain ⟨n1, rfl, h1⟩ := y.pre
    obtain ⟨n2, rfl, h2⟩ := x.pre
    refine ⟨n1 ++ n2, by simp, fun a ha => ?_⟩
    rcases List.mem_append.mp ha with ha | ha
    · exact h1 a ha
    · exact fun q => h2 a ha (y.keys a q)
  · have hp' := y.stay p hp hgm ho
    refine x.stay p hp' (fun q => ?_) (fun q => hx _ q (mem_keys hp))
    obtain ⟨n1, rfl, h1⟩ := y.pre
    rcases List.mem_append.mp q with q | q
    · exact hgm q
    · exact h1 _ q (mem_keys hp)
theorem for_core {it : Addr} {src : Src} {St : Nat → List Addr → Led → Prop} {Md : Nat → Value → List Addr → Led → Prop} {t : PySem.Expr} {xs : List Nm} {b : List Stmt} {bv : SV} {R : Result → Shared → Prop} (K : C.Ok) (V : EnvOk env X) {TG : PySem.Expr → Prop} (I : IterOk C nd env (W ++ X) it W src St Md TG) (hTG : TG t) (T : TgtOk env t xs)
    (hb : ∀ l o fl l' o', bv l o = some (fl, l', o') → SS C nd env (W ++ X) (execs b env) l o fl l' o') (hWX : ∀ a ∈ W, a ∉ X) (hH : ∀ a ∈ W, C.H.objs.size ≤ a) (hW0 : ∀ a ∈ W, a ∉ keys led₀) (RM : Room A nd) (D : At C env (W ++ X) γ led l o s.heap) (e₀ : Ext (ownE env) γ₀ led₀ γ led)
    {n k : Nat} (S : St k γ led) (h : forGo src xs bv n k l o = some (fl, l', o'))
    (hR : ∀ f h' tk γ' led', At C env X γ' led' l' o' h' → Ext (ownE env) γ₀ led₀ γ' led' → FR C X γ' led' fl f → R (.ok f) { s with heap := h', toks := tk }) :
    codeAny (model C.prog C.w) A (.forLoop t (.ref it) b [] env) R s := by
  have Wown : ∀ x ∈ W, x ∈ W ++ X := fun x hx => List.mem_append_left _ hx
  have ownW : ∀ x ∈ ownE env, x ∈ W ++ X ∧ x ∉ W := fun x hx => ⟨List.mem_append_right _ (V.own x hx), fun q => (I.own x q).2 hx⟩
  refine codeAny_forLoop_any (I := fun q s' => ∃ h₁ tk₁ γ₁ led₁ l₁ o₁ k₁, s' = { s with heap := h₁, toks := tk₁ } ∧ At C env (W ++ X) γ₁ led₁ l₁ o₁ h₁ ∧ Ext (ownE env) γ₀ led₀ γ₁ led₁ ∧ St k₁ γ₁ led₁ ∧ forGo src xs bv q k₁ l₁ o₁ = some (fl, l', o')) ?_ n ⟨s.heap, s.toks, γ, led, l, o, k, rfl, D, e₀, S, h⟩
  rintro q s' ⟨h₁, tk₁, γ₁, led₁, l₁, o₁, k₁, rfl, D₁, e₁, S₁, hg⟩
  cases q with
  | zero => exact nsM hg
  | succ q =>
    refine oa hg fun qv hs hg1 => ?_
    cases qv with
    | some av =>
      have hg1 : oaM (bindT xs av l₁) (fun l => oxM (bv l o₁) fun l o => forGo src xs bv q (k₁ + 1) l o) = some (fl, l', o') := hg1
      refine oa hg1 fun l2 hbt hg2 => ?_
      refine I.item RM D₁ S₁ hs fun vv h2 tk2 led2 D2 e2 M2 hv2 => ?_
      refine I.go hTG D2 M2 fun h3 led3 D3 e3 S3 => ?_
      refine tgt_ok K V.more V.more.own (fun _ _ => storeOk_all) RM T hbt D3 (VR.ext e3 (fun x hx => Wown x hx) _ _ hv2) fun h4 tk4 led4 D4 e4 => ?_
      have S4 := I.stay S3 (fun a ha q => D3.rel.apart a ha q) e4 ownW
      have e14 : Ext (ownE env) γ₀ led₀ γ₁ led4 := (e3.into hW0 (e2.into hW0 e₁)).trans e4
      refine ox hg2 (fun l5 o5 hbv hg => ?_) fun w l5 o5 hbv hg => ?_
      · refine hb _ _ _ _ _ hbv A _ γ₁ led4 _ _ RM D4 fun f h5 tk5 γ5 led5 D5 e5 hf => ?_
        cases hf
        exact ⟨q, Nat.lt_succ_self q, h5, tk5, γ5, led5, _, _, k₁ + 1, rfl, D5, e14.trans e5, I.stay S4 (fun a ha q => D4.rel.apart a ha q) e5 ownW, hg⟩
      · cases hg
        refine hb _ _ _ _ _ hbv A _ γ₁ led4 _ _ RM D4 fun f h5 tk5 γ5 led5 D5 e5 hf => ?_
        have hf' := FR.lose hf
        obtain ⟨u, rfl, hu⟩ := hf
        exact hR (.ret u) h5 tk5 γ5 _ (D5.drop V hWX (fun _ _ _ e => e) hH) ((e14.trans e5).lose hW0) hf'
    | none =>
      cases hg1
      refine I.done RM D₁ S₁ hs fun h' tk hk => ?_
      exact wpAny_execs_nil (hR .next h' tk γ₁ _ (D₁.drop V hWX hk hH) (e₁.lose hW0) rfl)
theorem iter_ok {v : AV} {vv : Value} {src : Src} {Q : Value → Shared → Prop} (K : C.Ok) (V : EnvOk env X) (D : At C env X γ led l o s.heap) (hv : VR C X γ led v vv) (h : srcOf o v = some src)
    (hQ : ∀ it io h' (kd : Kd), it ∉ keys led → C.H.objs.size ≤ it → (∀ b y, s.heap.get? b = some y → h'.get? b = some y) → At C env X γ ((it, io) :: led) l o h' → kd.src = src → kd.facts C X γ led → kd.obj 0 io → Q (.ref it) { s with heap := h' }) :
    wpAny (model C.prog C.w) A (pyIter vv) Q E s := by
  have hH : C.H.objs.size ≤ s.heap.objs.size := by
    obtain ⟨oL, m, h1, h2, _⟩ := D.loc
    exact Nat.le_of_lt (Nat.lt_of_le_of_lt (D.hold.up h1 h2.noseq) (Heap.lt_size (D.hold.at_ _ h1)))
  have fin : ∀ (io : Obj) (kd : Kd), io.isFreed = false → kd.src = src → kd.facts C X γ led → kd.obj 0 io → Q (.ref s.heap.objs.size) { s with heap := s.heap.push io } := by
    intro io kd hfr h1 h2 h3
    obtain ⟨D2, e2, n1, n2, n3⟩ := D.alloc (ob := io) K V (fun b o q => Heap.get?_push_of_some _ q) (Nat.le_refl _) (Heap.get?_push_size _ hfr)
    exact hQ _ io _ kd n3 hH (fun b o q => Heap.get?_push_of_some _ q) D2 h1 h2 h3
  have dic : ∀ {a : Addr} {es : List DictEntry} {n : Nat} {ks : List Nm} {vs : List Value} (kd : Kd), s.heap.get? a = some (dictOf es n) → (a == sysModules) = false → Ents C.w es ks vs → ks.Nodup → kd.src = src → kd.facts C X γ led → kd.typ = "dict_keyiterator" → kd.dat 0 = #[.ref a, .int 0 0, .int ks.length 0, .int n 0] → kd.exact = false → wpAny (model C.prog C.w) A (pyIter (.ref a)) Q E s := fun {a es n ks vs} kd ho hsys he hn h1 h2 h3 h4 h5 => by
    have hkv := kvs_len he
    refine wpAny_pyIter_dict hsys (he.dictAt (prog := C.prog) hn ho) (fin _ kd rfl h1 h2 ⟨by rw [h3], ?_, fun e => by rw [h5] at e; cases e⟩)
    rw [h4, hkv]
  delta srcOf at h
  cases v with
  | tup xs =>
    cases h
    obtain ⟨a, vs, n, rfl, hs, hxs⟩ := vr_tup hv
    exact wpAny_pyIter_tuple (tup_at K D.hold hs) (fin _ (.tup a vs n xs) rfl rfl ⟨hs, hxs⟩ ⟨rfl, rfl, fun e => by cases e⟩)
  | fdict ks xs =>
    cases h
    obtain ⟨a, es, n, vs, rfl, hs, he, hn, hxs⟩ := vr_fdict hv
    exact dic (.fd a es n ks vs) (hs.get K D.hold) (sys_ne K D.hold hs) he hn rfl ⟨hs, he, hn⟩ rfl (by rw [← he.length.1]; rfl) rfl
  | str x =>
    cases h
    obtain ⟨t, rfl⟩ := vr_str hv
    cases ha : (toS x).cps.all (· < 128) with
    | true => exact wpAny_pyIter_ascii ha (fin _ (.str x t) rfl rfl trivial ⟨by simp only [Kd.typ, ha, if_true], rfl, fun e => by cases e⟩)
    | false => exact wpAny_pyIter_wide ha (fin _ (.str x t) rfl rfl trivial ⟨by simp only [Kd.typ, ha]; rfl, rfl, fun e => by cases e⟩)
  | ref i =>
    obtain ⟨a, ha, rfl⟩ := vr_ref hv
    refine oa h fun oc ho h => oe h (fun xs hx h1 => ?_) fun h => ob h fun ks p hp h => oa h fun ep hep h1 => ?_
    · cases jLst_ok hx
      cases h1
      obtain ⟨vs, ob, hm2, hlo, hxs⟩ := D.rel.has _ _ _ ho ha
      exact wpAny_pyIter_list (list_at D.hold hm2 hlo.1) (fin _ (.list i a) rfl rfl ha ⟨rfl, rfl, fun e => by cases e⟩)
    · cases jDct_ok (xs := p.1) (ep := p.2) hp
      cases h1
      obtain ⟨es, m, vs, hm2, hep', he, hn, hxs⟩ := D.rel.has _ _ _ ho ha
      cases hep' _ hep
      exact dic (.dict i a ks.length ep) (D.hold.at_ _ hm2) (led_sys K D.hold hm2) he hn rfl ha rfl rfl rfl
  | _ => exact nsM h
theorem ss_for {t iter : PySem.Expr} {xs : List Nm} {b : List Stmt} {pos : Pos} {bv : SV} {v : AV} {src : Src} {n : Nat} (K : C.Ok) (V : EnvOk env X) (T : TgtOk env t xs) (hp : plainE iter = true) (h1 : SE C nd env X (eval iter env) l o v o₁) (hs : srcOf o₁ v = some src)
    (hb : ∀ P l o fl l' o', bv l o = some (fl, l', o') → SS C nd env (P ++ X) (execs b env) l o fl l' o') (h : forGo src xs bv n 0 l o₁ = some (fl, l', o')) : SS C nd env X (exec (.For t iter b [] pos) env) l o fl l' o' := by
  intro A s γ led Q E R D hQ
  refine wpAny_For (h1 A s γ led _ E R D fun vv h' tk γ' led' D' e' hv => ?_) (folded_plain hp)
  refine iter_ok K V D' hv hs fun it io h2 kd n1 n2 hk D2 hsrc hf hob => ?_
  have hX : it ∉ X := fun q => n1 (D'.rel.inled _ q)
  have hP : ∀ a ∈ [it], a ∉ keys led' := by simpa using n1
  have hsub : ∀ p ∈ led', p ∈ (it, io) :: led' := fun p hp => .tail _ hp
  have D3 : At C env ([it] ++ X) γ' ((it, io) :: led') l o₁ h2 := D'.protect hP hsub (by simp [keys]) D2.hold
  have hown : it ∉ ownE env := fun q => hX (V.own _ q)
  have I : IterOk C nd env ([it] ++ X) it [it] kd.src (ItSt C ([it] ++ X) it kd) (fun k _ γ led => ItSt C ([it] ++ X) it kd (k + 1) γ led) (fun _ => True) := kd_iter K V.more (by simp) hown
  have S : ItSt C ([it] ++ X) it kd 0 γ' ((it, io) :: led') := ⟨Kd.facts_map (fun _ _ => Stb.protect hP hsub) (fun _ _ e => e) hf, io, .head _, hob⟩
  have e3 : Ext (ownE env) γ' led' γ' ((it, io) :: led') := ⟨⟨[], by simp, by simp⟩, fun p hp _ _ => .tail _ hp, fun x hx => .tail _ hx⟩
  rw [← hsrc] at h
  refine for_core (γ₀ := γ') (led₀ := led') (s := ⟨h2, s.gens, s.drawn, tk, s.os⟩) K V I trivial T (hb [it]) (by simpa using hX) (by simpa using n2) (by simpa using n1) R D3 e3 S h fun f h4 tk4 γ4 led4 D4 e4 hf => ?_
  exact hQ f h4 tk4 γ4 led4 D4 (e'.nil.trans e4) hf
end
end
section
open AutoSeq1 (wpAny_loadPart')
section
variable {prog : Program} {w : World} {A : Around} {E : Value → Shared → Prop} {s : Shared}
theorem nextOf_tuple_item {it t : Addr} {i : Nat} {items : Array Value} {x : Value} {Q : Value → Shared → Prop} (hit : s.heap.IsTupleIter it t i)
    (hl : s.heap.IsTuple t items) (hx : items[i]? = some x) (hQ : ∀ h', h'.IsTupleIter it t (i + 1) → Heap.SameBut it s.heap h' → Q x { s with heap := h' }) :
    wpAny (model prog w) A (Builtin.SmallTypes.nextOf (.ref it)) Q E s := by
  obtain ⟨o, ho, hc, hd⟩ := id hit
  obtain ⟨ol, hol, _, nl, hdl⟩ := hl
  unfold Builtin.SmallTypes.nextOf
  refine wpAny_bind (wpAny_callSpecial?_slot (name := Str.ofString "__next__") hit.typeIs PySem.F.slot_tuple_iterator_next
    (wpAny_call_entry PySem.F.slot_tuple_iterator_next hit.typeIs PySem.F.entry_tuple_iterator_next ?_ (PySem.F.args_tuple_iterator_next_1 _)))
  show wpAny _ _ (field (.ref it) 0 >>= _) _ _ s
  refine wpAny_bind (wpAny_field ho hd (x := .ref t) rfl ?_)
  show wpAny _ _ (if (Value.ref t == Value.none) = true then _ else _) _ _ s
  rw [if_neg (show ¬ ((Value.ref t == Value.none) = true) from Bool.false_ne_true)]
  show wpAny _ _ (field (.ref it) 1 >>= _) _ _ s
  refine wpAny_bind (wpAny_field ho hd (x := .int i 0) rfl ?_)
  show wpAny _ _ (seqItems? (.ref t) >>= _) _ _ s
  refine wpAny_bind (wpAny_seqItems hol hdl ?_)
  simp only [Int.toNat_natCast, hx]
  refine wpAny_bind (wpAny_setField ho hd (by simp) (wpAny_pure ⟨x, rfl, wpAny_pure (hQ _ ?_ (Heap.SameBut.update ..))⟩))
  exact ⟨_, Heap.get?_update_self _ ho (Obj.isFreed_of_fields (Obj.data_mapFields hd _)), (Obj.cls_mapFields ..).trans hc, by
    rw [Obj.data_mapFields hd]; simp [rawInt]⟩
theorem nextOf_tuple_end {it t : Addr} {i : Nat} {items : Array Value} {Q : Value → Shared → Prop} (hh : A.handled = none) (hit : s.heap.IsTupleIter it t i) (hl : s.heap.IsTuple t items) (hx : items[i]? = none)
    (hE : ∀ h' e, Heap.ExtBut it s.heap h' → (∃ o, h'.get? e = some o ∧ o.cls = .type "StopIteration") → E (.ref e) { s with heap := h' }) :
    wpAny (model prog w) A (Builtin.SmallTypes.nextOf (.ref it)) Q E s := by
  obtain ⟨o, ho, hc, hd⟩ := id hit
  obtain ⟨ol, hol, _, nl, hdl⟩ := hl
  unfold Builtin.SmallTypes.nextOf
  refine wpAny_bind (wpAny_callSpecial?_slot (name := Str.ofString "__next__") hit.typeIs PySem.F.slot_tuple_iterator_next
    (wpAny_call_entry PySem.F.slot_tuple_iterator_next hit.typeIs PySem.F.entry_tuple_iterator_next ?_ (PySem.F.args_tuple_iterator_next_1 _)))
  show wpAny _ _ (field (.ref it) 0 >>= _) _ _ s
  refine wpAny_bind (wpAny_field ho hd (x := .ref t) rfl ?_)
  show wpAny _ _ (if (Value.ref t == Value.none) = true then _ else _) _ _ s
  rw [if_neg (show ¬ ((Value.ref t == Value.none) = true) from Bool.false_ne_true)]
  show wpAny _ _ (field (.ref it) 1 >>= _) _ _ s
  refine wpAny_bind (wpAny_field ho hd (x := .int i 0) rfl ?_)
  show wpAny _ _ (seqItems? (.ref t) >>= _) _ _ s
  refine wpAny_bind (wpAny_seqItems hol hdl ?_)
  simp only [Int.toNat_natCast, hx]
  refine wpAny_bind (wpAny_rule (wpAny_bind (wpAny_setField ho hd (by simp) ?_)))
  show wpAny _ _ (newExc (.type "StopIteration") [] >>= _) _ _ _
  refine wpAny_bind ?_
  simp only [newExc, newTuple]
  refine wpAny_bind (wpAny_newObj_type ?_ (by size_fits))
  refine wpAny_bind (m := firstArgMember _ _) (wpAny_of_eq (a := Value.none) (by first | rfl | (simp only [firstArgMember]; rfl)) ?_)
  refine wpAny_newObj_type ?_ (by size_fits)
  simp only [raiseNew]
  refine wpAny_bind (wpAny_handled ?_)
  first | rw [show A.in1.handled = none from hh] | rw [hh]
  refine wpAny_bind (wpAny_pure (wpAny_throw ?_))
  exact hE _ _ (((Heap.SameBut.update ..).extBut.push _).push _) ⟨_, Heap.get?_push_size _ rfl, rfl⟩
end
theorem draws_tuple {prog : Program} {w : World} {A : Around} (hh : A.handled = none) (it l : Addr) (hne : l ≠ it) (items : Array Value) :
    Draws prog w A it [it, l] items.size (fun i v => items[i]? = some v) (fun i h => h.IsTupleIter it l i ∧ h.IsTuple l items) where
  live := fun _ _ st => let ⟨o, ho, _⟩ := st.1; ⟨o, ho⟩
  frame := fun _ _ _ st hk => ⟨st.1.at fun o e => hk it (by simp) o e, st.2.at fun o e => hk l (by simp) o e⟩
  item := fun i s Q E hi st hQ => by
    refine nextOf_tuple_item st.1 st.2 (x := items[i]) (by simp [hi]) fun h' hit' hs' => ?_
    exact hQ _ h' s.toks (by simp [hi]) ⟨hit', st.2.extBut hs'.extBut hne⟩ hs'
  done := fun s Q E st hE => nextOf_tuple_end hh st.1 st.2 (by simp) hE
theorem meets_enum (l : Addr) (items : Array Value) (n : Nat) :
    Meets (Builtin.«enumerate.__new__» ⟨[.type "enumerate", .ref l], []⟩) (fun _ R s => s.heap.get? l = some { cls := .type "tuple", dict := none, data := .seq items n, slots := #[] } ∧
      R (.ok (.ret (.ref (s.heap.push { cls := .type "tuple_iterator", data := .fields #[.ref l, .int 0 0] }).objs.size)))
        { s with heap := (s.heap.push { cls := .type "tuple_iterator", data := .fields #[.ref l, .int 0 0] }).push { cls := .type "enumerate", data := .fields #[.none, .bool false, .ref s.heap.objs.size, rawInt 0, .none, .none] } }) :=
  .of_wp fun prog w A R s h => by
    obtain ⟨hp, g, d, tk, os⟩ := s; obtain ⟨hl, h⟩ := h
    have hsub := sub_enumerate
    have hL : Heap.IsTuple (Shared.heap ⟨hp, g, d, tk, os⟩) l items := ⟨_, hl, rfl, n, rfl⟩
    wp_walk using wpAny_loadPart' hl
    refine wpAny_stack_any fun st => wpAny_pure ?_
    split
    · rename_i c _ _ _ _ _
      cases (c == Value.type "enumerate")
      · wp_walk using wpAny_loadPart' hl, wpAny_pyIter_tuple hL
        exact ⟨_, rfl, h⟩
      · wp_walk using wpAny_loadPart' hl, wpAny_pyIter_tuple hL
        exact ⟨_, rfl, h⟩
    · wp_walk using wpAny_loadPart' hl, wpAny_pyIter_tuple hL
      exact ⟨_, rfl, h⟩
section
variable {prog : Program} {w : World} {A : Around} {E : Value → Shared → Prop} {s : Shared}
theorem call_enum {l : Addr} {items : Array Value} {n : Nat} {Q : Value → Shared → Prop} (hl : s.heap.get? l = some { cls := .type "tuple", dict := none, data := .seq items n, slots := #[] })
    (h : Q (.ref (s.heap.objs.size + 1)) { s with heap := (s.heap.push { cls := .type "tuple_iterator", data := .fields #[.ref l, .int 0 0] }).push { cls := .type "enumerate", data := .fields #[.none, .bool false, .ref s.heap.objs.size, rawInt 0, .none, .none] } }) :
    wpAny (model prog w) A (call (.type "enumerate") [.ref l]) Q E s := by
  have hz : (s.heap.push { cls := .type "tuple_iterator", data := .fields #[.ref l, .int 0 0] }).objs.size = s.heap.objs.size + 1 := Heap.size_push ..
  refine callType_new PySem.F.called_enumerate (by decide) (PySem.F.typeCall_enumerate_1 _) (PySem.F.newCall_enumerate_1 _) (fun obj => PySem.F.args_object_init_2 obj _) PySem.F.entry_enumerate_new
    (meets_enum l items n) ⟨hl, ?_⟩
  show _ ∧ _
  rw [hz]
  have he : IsEnum ((s.heap.push { cls := .type "tuple_iterator", data := .fields #[.ref l, .int 0 0] }).push
      { cls := .type "enumerate", data := .fields #[.none, .bool false, .ref s.heap.objs.size, rawInt 0, .none, .none] }) (s.heap.objs.size + 1) s.heap.objs.size 0 .none := by
    have := Heap.get?_push_size (s.heap.push { cls := .type "tuple_iterator", data := .fields #[.ref l, .int 0 0] })
      (o := { cls := .type "enumerate", data := .fields #[.none, .bool false, .ref s.heap.objs.size, rawInt 0, .none, .none] }) rfl
    rw [hz] at this; exact this
  exact ⟨⟨_, he, rfl⟩, h⟩
end
end
section
noncomputable abbrev enumO (it : Addr) (i : Int) (old : Value) : Obj := { cls := .type "enumerate", dict := none, data := .fields #[.none, .bool false, .ref it, rawInt i, .none, old], slots := #[] }
noncomputable abbrev enumOutO (T it : Addr) (i : Int) (x : Value) : Obj := { cls := .type "enumerate", dict := none, data := .fields #[rawInt T, .bool false, .ref it, rawInt i, .none, x], slots := #[] }
noncomputable def EnSt (C : Cfg) (X : List Addr) (e it a : Addr) (vs : List Value) (n : Nat) (xs : List AV) (k : Nat) (γ : List Addr) (led : Led) : Prop :=
  k ≤ xs.length ∧ Stb C X γ led a (tupO vs n) ∧ VRs C X γ led xs vs ∧ (∃ old, (e, enumO it k old) ∈ led) ∧ ∃ io, (it, io) ∈ led ∧ io.cls = .type "tuple_iterator" ∧ io.data = .fields #[.ref a, .int k 0]
noncomputable def EnMd (C : Cfg) (X : List Addr) (e it a : Addr) (vs : List Value) (n : Nat) (xs : List AV) (k : Nat) (vv : Value) (γ : List Addr) (led : Led) : Prop :=
  k + 1 ≤ xs.length ∧ Stb C X γ led a (tupO vs n) ∧ VRs C X γ led xs vs ∧ (∃ T x, vv = .ref T ∧ (e, enumOutO T it ((k : Int) + 1) x) ∈ led) ∧ ∃ io, (it, io) ∈ led ∧ io.cls = .type "tuple_iterator" ∧ io.data = .fields #[.ref a, .int ((k + 1 : Nat) : Int) 0]
section
variable {C : Cfg} {nd : Nat} {env : Env} {X γ W : List Addr} {led led' : Led} {l l' : Loc} {o o' o₁ : Objs} {fl : FL} {A : Around} {s : Shared} {E : Value → Shared → Prop}
theorem At.step {h h' : Heap} (V : EnvOk env X) (D : At C env X γ led l o h) (H : Hold C h' led') (h1 : ∀ p ∈ led, p.1 ∉ W → p ∈ led') (h2 : ∀ a ∈ keys led, a ∈ keys led') (hW : ∀ x ∈ W, x ∈ X ∧ x ∉ ownE env) : At C env X γ led' l o h' ∧ Ext W γ led γ led' := by
  have e1 : Ext W γ led γ led' := ⟨⟨[], by simp, by simp⟩, fun p hp _ ho => h1 p hp ho, h2⟩
  have ho : ∀ y ∈ W, y ∈ X := fun y hy => (hW y hy).1
  have hC : ∀ n c, env.cells.lookup n = some c → c ∉ W := fun n c hc e => (hW c e).2 (List.mem_cons_of_mem _ (mem_lookup hc))
  refine ⟨⟨H, D.rel.ext (own := W) ho (fun p hp hne => h1 p hp hne) h2, D.loc.ext V D.rel e1 ho (fun x hx => ⟨fun e => (hW x hx).2 (by rw [e]; simp [ownE]), fun n c hc e => hC n c hc (e ▸ hx)⟩), fun n c hc => ?_⟩, e1⟩
  obtain ⟨oc, ov, hm, hd'⟩ := D.cel n c hc
  exact ⟨oc, ov, h1 _ hm (hC n c hc), hd'⟩
theorem Hold.two {h h' : Heap} {e it T : Addr} {eo io to : Obj} (D : Hold C h led) (he : e ∈ keys led) (hi : it ∈ keys led) (hne : e ≠ it) (he' : C.H.objs.size ≤ e) (hi' : C.H.objs.size ≤ it) (hT : T ∉ keys led) (hH : C.H.objs.size ≤ T) (g1 : h'.get? e = some eo) (g2 : h'.get? it = some io) (g3 : h'.get? T = some to)
    (hk : ∀ b y, b ≠ e → b ≠ it → h.get? b = some y → h'.get? b = some y) : Hold C h' ((T, to) :: upd (upd led e eo) it io) := by
  refine ⟨fun p hp => ?_, ?_, fun p hp => ?_, fun b y q => ?_⟩
  · rcases List.mem_cons.mp hp with rfl | hp
    · exact g3
    · rcases of_mem_upd hp with ⟨rfl, _⟩ | ⟨hp, n1⟩
      · exact g2
      · rcases of_mem_upd hp with ⟨rfl, _⟩ | ⟨hp, n2⟩
        · exact g1
        · exact hk _ _ n2 n1 (D.at_ p hp)
  · show (T :: keys (upd (upd led e eo) it io)).Nodup
    rw [keys_upd, keys_upd]
    exact List.nodup_cons.mpr ⟨hT, D.nodup⟩
  · rcases List.mem_cons.mp hp with rfl | hp
    · exact .inl hH
    · rcases of_mem_upd hp with ⟨rfl, _⟩ | ⟨hp, n1⟩
      · exact .inl hi'
      · rcases of_mem_upd hp with ⟨rfl, _⟩ | ⟨hp, n2⟩
        · exact .inl he'
        · exact D.above p hp
  · have n1 : b ≠ e := fun z => Nat.lt_irrefl _ (Nat.lt_of_lt_of_le (Heap.lt_size q) (z ▸ he'))
    have n2 : b ≠ it := fun z => Nat.lt_irrefl _ (Nat.lt_of_lt_of_le (Heap.lt_size q) (z ▸ hi'))
    exact hk b y n1 n2 (D.keep b y q)
theorem enumA_get {xs : List AV} {k : Nat} {av : AV} (h : (enumA xs)[k]? = some av) : ∃ x, xs[k]? = some x ∧ av = .tup [.int (.ofNat k), x] := by
  unfold enumA at h
  rw [List.getElem?_map] at h
  obtain ⟨p, hp, rfl⟩ := Option.map_eq_some_iff.mp h
  rw [List.getElem?_zipIdx] at hp
  obtain ⟨x, hx, rfl⟩ := Option.map_eq_some_iff.mp hp
  exact ⟨x, hx, by simp⟩
theorem enumA_none {xs : List AV} {k : Nat} (h : (enumA xs)[k]? = none) : xs.length ≤ k := by simpa [enumA] using h
theorem en_iter {e it a : Addr} {vs : List Value} {n : Nat} {xs : List AV} (K : C.Ok) (V : EnvOk env X) (he : e ∈ X) (hi : it ∈ X) (hne : e ≠ it) (ho : e ∉ ownE env) (ho' : it ∉ ownE env) :
    IterOk C nd env X e [e, it] (.items (enumA xs)) (EnSt C X e it a vs n xs) (EnMd C X e it a vs n xs) (fun t => ∃ es k p, t = .Tuple es k p) where
  own := fun x hx => by
    rcases List.mem_cons.mp hx with rfl | hx
    · exact ⟨he, ho⟩
    · have : x = it := by simpa using hx
      subst this; exact ⟨hi, ho'⟩
  stay := fun {k γ led γ' led' own} S ha ex hox => by
    obtain ⟨h0, h1, h2, ⟨old, h3⟩, io, h4, h5⟩ := S
    exact ⟨h0, h1.ext ex fun x hx => (hox x hx).1, VRs.ext ex (fun x hx => (hox x hx).1) _ _ h2, ⟨old, ex.stay _ h3 (fun q => ha _ q he) (fun q => (hox _ q).2 (by simp))⟩, io, ex.stay _ h4 (fun q => ha _ q hi) (fun q => (hox _ q).2 (by simp)), h5⟩
  item := fun {A s γ led l o k av Q E} R D S h hQ => by
    obtain ⟨h0, h1, h2, ⟨old, h3⟩, io, h4, h5, h6⟩ := S
    simp only [srcItem] at h
    obtain ⟨x, hx, rfl⟩ := enumA_get (Option.some.inj h)
    obtain ⟨w, hw, hr⟩ := h2.get hx
    have ha : IsTup s.heap a vs.toArray := tup_at K D.hold h1
    have hne2 : a ≠ it := fun q => by
      obtain ⟨oa, e1, e2, _⟩ := ha
      rw [q, D.hold.at_ _ h4] at e1
      cases e1
      rw [h5] at e2
      exact absurd e2 (by decide)
    have hne3 : e ∉ [it, a] := fun q => by
      rcases List.mem_cons.mp q with q | q
      · exact hne q
      · have q : e = a := by simpa using q
        obtain ⟨oa, e1, e2, _⟩ := ha
        rw [← q, D.hold.at_ _ h3] at e1
        cases e1
        exact absurd (show Value.type "enumerate" = Value.type "tuple" from e2) (by decide)
    have hk := (List.getElem?_eq_some_iff.mp hw).1
    refine wpAny_pyNext_enum_itemD (draws_tuple (A := A.in1) R.1 it a hne2 vs.toArray) (D.hold.at_ _ h3) ⟨⟨io, D.hold.at_ _ h4, h5, h6⟩, ha⟩ (by simpa using hk) hne hne3 fun x' h' tk hP hO hS hT hsz hkeep => ?_
    have hxw : x' = w := by
      have : vs.toArray[k]? = some x' := hP
      simp only [List.getElem?_toArray] at this
      rw [hw] at this
      exact (Option.some.inj this).symm
    subst hxw
    obtain ⟨⟨io', i1, i2, i3⟩, _⟩ := hS
    have hT' : s.heap.objs.size ∉ keys led := fun q => Nat.lt_irrefl _ (D.hold.lt q)
    have hH : C.H.objs.size ≤ s.heap.objs.size := by
      obtain ⟨oL, m, z1, z2, _⟩ := D.loc
      exact Nat.le_of_lt (Nat.lt_of_le_of_lt (D.hold.up z1 z2.noseq) (Heap.lt_size (D.hold.at_ _ z1)))
    have HH := D.hold.two (mem_keys h3) (mem_keys h4) hne (D.hold.up h3 (fields_noseq rfl)) (D.hold.up h4 (fields_noseq h6)) hT' hH hO i1 hT hkeep
    obtain ⟨D2, e2⟩ := D.step (W := [e, it]) V HH (fun p hp hnw => .tail _ (mem_upd_ne (mem_upd_ne hp (fun q => hnw (by simp [q]))) (fun q => hnw (by simp [q])))) (fun b hb => .tail _ (by show b ∈ keys _; rw [keys_upd, keys_upd]; exact hb)) (fun y hy => by
      rcases List.mem_cons.mp hy with rfl | hy
      · exact ⟨he, ho⟩
      · have : y = it := by simpa using hy
        subst this; exact ⟨hi, ho'⟩)
    have hW : ∀ y ∈ [e, it], y ∈ X := fun y hy => by
      rcases List.mem_cons.mp hy with rfl | hy
      · exact he
      · have : y = it := by simpa using hy
        subst this; exact hi
    refine hQ _ h' (tk + 1) _ D2 e2 ⟨(List.getElem?_eq_some_iff.mp hx).1, h1.ext e2 hW, VRs.ext e2 hW _ _ h2, ⟨_, x', rfl, .tail _ (mem_upd_ne (mem_upd_self (mem_keys h3)) hne)⟩, io', .tail _ (mem_upd_self (by rw [keys_upd]; exact mem_keys h4)), i2, i3⟩ ?_
    simp only [VR, VRs]
    refine ⟨_, [.int (k : Int) tk, x'], 0, rfl, .inr ⟨.head _, fun q => hT' (D.rel.gmem q), fun q => hT' (D.rel.inled _ q)⟩, _, _, rfl, ⟨tk, rfl⟩, x', [], rfl, VR.ext e2 hW _ _ hr, rfl⟩
  go := fun {A s γ led l o k vv tgt Q E} hT D M hQ => by
    obtain ⟨es, kk, p, rfl⟩ := hT
    obtain ⟨h0, h1, h2, ⟨T, x, rfl, h3⟩, io, h4, h5, h6⟩ := M
    refine wpAny_letOwnedTupleGo_enum (D.hold.at_ _ h3) fun h' hE hs => ?_
    obtain ⟨D2, e2⟩ := D.poke V (mem_keys h3) he ho (fun b y hb hy => (hs.2 b hb).trans hy) hE (D.hold.up h3 (fields_noseq rfl))
    have hW : ∀ y ∈ [e], y ∈ X := by simp [he]
    have e3 : Ext [e, it] γ led γ (upd led e (enumO it ((k : Int) + 1) x)) := e2.own (by simp)
    refine hQ h' _ D2 e3 ⟨h0, h1.ext e2 hW, VRs.ext e2 hW _ _ h2, ⟨x, ?_⟩, io, mem_upd_ne h4 (Ne.symm hne), h5, h6⟩
    have := mem_upd_self (o := enumO it ((k : Int) + 1) x) (mem_keys h3)
    simpa using this
  done := fun {A s γ led l o k Q E} R D S h hQ => by
    obtain ⟨h0, h1, h2, ⟨old, h3⟩, io, h4, h5, h6⟩ := S
    simp only [srcItem] at h
    have hl := enumA_none (Option.some.inj h)
    have ha : IsTup s.heap a vs.toArray := tup_at K D.hold h1
    have hne2 : a ≠ it := fun q => by
      obtain ⟨oa, e1, e2, _⟩ := ha
      rw [q, D.hold.at_ _ h4] at e1
      cases e1
      rw [h5] at e2
      exact absurd e2 (by decide)
    have hk : k = vs.toArray.size := by rw [List.size_toArray, h2.length]; omega
    subst hk
    exact PySem.wpAny_pyNext_enum_endD (draws_tuple (A := A.in1) R.1 it a hne2 vs.toArray) (D.hold.at_ _ h3) ⟨⟨io, D.hold.at_ _ h4, h5, h6⟩, ha⟩ fun h' hx => hQ h' s.toks fun b y hb hy => hx b y (fun q => hb (by simp [q])) hy
end
end
section
section
variable {C : Cfg} {nd : Nat} {env : Env} {X γ W : List Addr} {led led' : Led} {l l' : Loc} {o o' o₁ o₂ : Objs} {fl : FL} {A : Around} {s : Shared} {E : Value → Shared → Prop}
theorem ss_forE {e : PySem.Expr} {x : PySem.Str} {p1 p2 : Pos} {es : List PySem.Expr} {kk : Nat} {tp : Pos} {xs : List Nm} {b : List Stmt} {pos : Pos} {bv : SV} {vs : List AV} {n i : Nat} (K : C.Ok) (V : EnvOk env X) (T : TgtOk env (.Tuple es kk tp) xs) (hp : plainE e = true)
    (hg : C.gval i = .type "enumerate") (h0 : SE C nd env X (eval (.Name x p1) env) l o (.g i) o) (h1 : SE C nd env X (eval e env) l o (.tup vs) o₁)
    (hb : ∀ P l o fl l' o', bv l o = some (fl, l', o') → SS C nd env (P ++ X) (execs b env) l o fl l' o') (h : forGo (.items (enumA vs)) xs bv n 0 l o₁ = some (fl, l', o')) :
    SS C nd env X (exec (.For (.Tuple es kk tp) (.Call (.Name x p1) [e] [] p2) b [] pos) env) l o fl l' o' := by
  intro A s γ led Q E R D hQ
  refine wpAny_For (wpAny_Call_Name_kw (h0 A s γ led _ E R D fun f h' tk γ' led' D' e' hf => ?_)) (folded_plain rfl)
  simp only [VR] at hf
  subst hf
  rw [hg, args_ses (by simp [hp])]
  have h2 : SEs C nd env X (spliced (argTs env [e])) l o [.tup vs] o₁ := ses_cons h1 ses_nil
  refine call_with K keeps_type R D' h2 (by simp) fun ws h2 tk2 γ2 led2 D2 e2 hws => ?_
  simp only [VRs] at hws
  obtain ⟨w, ws', rfl, hw, rfl⟩ := hws
  simp only [VR] at hw
  obtain ⟨a, us, m, rfl, hs, hus⟩ := hw
  refine call_enum (hs.get K D2.hold) ?_
  let s2 : Shared := ⟨h2, s.gens, s.drawn, tk2, s.os⟩
  show wpAny _ _ (pyIter (.ref (h2.objs.size + 1))) _ _ { s2 with heap := (h2.push { cls := .type "tuple_iterator", data := .fields #[.ref a, .int 0 0] }).push (enumO h2.objs.size 0 .none) }
  obtain ⟨D3, e3, n1, n2, n3⟩ := D2.alloc (ob := { cls := .type "tuple_iterator", data := .fields #[.ref a, .int 0 0] }) K V (fun b o q => Heap.get?_push_of_some _ q) (Nat.le_refl _) (Heap.get?_push_size _ rfl)
  have hz : (h2.push { cls := .type "tuple_iterator", data := .fields #[.ref a, .int 0 0] }).objs.size = h2.objs.size + 1 := Heap.size_push ..
  have g4 := Heap.get?_push_size (h2.push { cls := .type "tuple_iterator", data := .fields #[.ref a, .int 0 0] }) (o := enumO h2.objs.size 0 .none) rfl
  rw [hz] at g4
  obtain ⟨D4, e4, n4, n5, n6⟩ := D3.alloc (h' := (h2.push { cls := .type "tuple_iterator", data := .fields #[.ref a, .int 0 0] }).push (enumO h2.objs.size 0 .none)) (a := h2.objs.size + 1) (ob := enumO h2.objs.size 0 .none) K V (fun b o q => Heap.get?_push_of_some _ q) (by rw [hz]; exact Nat.le_refl _) g4
  refine wpAny_pyIter_enum (D4.hold.at_ _ (.head _)) ?_
  have ne : h2.objs.size + 1 ≠ h2.objs.size := Nat.succ_ne_self _
  have n6' : h2.objs.size + 1 ∉ keys led2 := fun q => n6 (.tail _ q)
  have hP : ∀ y ∈ [h2.objs.size + 1, h2.objs.size], y ∉ keys led2 := fun y hy => by
    rcases List.mem_cons.mp hy with rfl | hy
    · exact n6'
    · have : y = h2.objs.size := by simpa using hy
      subst this; exact n3
  have hsub : ∀ p ∈ led2, p ∈ (h2.objs.size + 1, enumO h2.objs.size 0 .none) :: (h2.objs.size, { cls := .type "tuple_iterator", data := .fields #[.ref a, .int 0 0] }) :: led2 := fun p hp => .tail _ (.tail _ hp)
  have D5 : At C env ([h2.objs.size + 1, h2.objs.size] ++ X) γ2 _ l o₁ _ := D2.protect hP hsub (fun y hy => by
    rcases List.mem_cons.mp hy with rfl | hy
    · exact .head _
    · have : y = h2.objs.size := by simpa using hy
      subst this; exact .tail _ (.head _)) D4.hold
  have I := en_iter (nd := nd) (X := [h2.objs.size + 1, h2.objs.size] ++ X) (e := h2.objs.size + 1) (it := h2.objs.size) (a := a) (vs := us) (n := m) (xs := vs) K V.more (by simp) (by simp) ne (fun q => n5 (V.own _ q)) (fun q => n2 (V.own _ q))
  have S : EnSt C ([h2.objs.size + 1, h2.objs.size] ++ X) (h2.objs.size + 1) h2.objs.size a us m vs 0 γ2 ((h2.objs.size + 1, enumO h2.objs.size 0 .none) :: (h2.objs.size, { cls := .type "tuple_iterator", data := .fields #[.ref a, .int 0 0] }) :: led2) :=
    ⟨Nat.zero_le _, Stb.protect hP hsub hs, VRs.map (fun _ _ => Stb.protect hP hsub) (fun _ _ e => e) _ _ hus, ⟨.none, .head _⟩, _, .tail _ (.head _), rfl, rfl⟩
  have e5 : Ext (ownE env) γ2 led2 γ2 ((h2.objs.size + 1, enumO h2.objs.size 0 .none) :: (h2.objs.size, { cls := .type "tuple_iterator", data := .fields #[.ref a, .int 0 0] }) :: led2) := (e3.trans e4).nil
  refine for_core (γ₀ := γ2) (led₀ := led2) (s := ⟨_, s.gens, s.drawn, tk2, s.os⟩) K V I ⟨es, kk, tp, rfl⟩ T (hb _) (fun y hy => ?_) (fun y hy => ?_) hP R D5 e5 S h fun f h4 tk4 γ4 led4 D4 e4 hf => ?_
  · rcases List.mem_cons.mp hy with rfl | hy
    · exact n5
    · have : y = h2.objs.size := by simpa using hy
      subst this; exact n2
  · rcases List.mem_cons.mp hy with rfl | hy
    · exact Nat.le_succ_of_le D2.ge
    · have : y = h2.objs.size := by simpa using hy
      subst this; exact D2.ge
  · exact hQ f h4 tk4 γ4 led4 D4 ((e'.trans e2).nil.trans e4) hf
theorem ss_forR {e : PySem.Expr} {x : PySem.Str} {p1 p2 p3 : Pos} {y : Nm} {b : List Stmt} {pos : Pos} {bv : SV} {q n i : Nat} (K : C.Ok) (V : EnvOk env X) (hk : env.kindOf (toS y) = some .local ∨ env.kindOf (toS y) = some .cell) (hp : plainE e = true)
    (hg : C.gval i = .type "range") (h0 : SE C nd env X (eval (.Name x p1) env) l o (.g i) o) (h1 : SE C nd env X (eval e env) l o (.int (.ofNat q)) o₁) (hq : q < 64)
    (hb : ∀ P l o fl l' o', bv l o = some (fl, l', o') → SS C nd env (P ++ X) (execs b env) l o fl l' o') (h : forGo (.items (rangeA q)) [y] bv n 0 l o₁ = some (fl, l', o')) :
    SS C nd env X (exec (.For (.Name (toS y) p3) (.Call (.Name x p1) [e] [] p2) b [] pos) env) l o fl l' o' := by
  intro A s γ led Q E R D hQ
  refine wpAny_For (wpAny_Call_Name_kw (h0 A s γ led _ E R D fun f h' tk γ' led' D' e' hf => ?_)) (folded_plain rfl)
  simp only [VR] at hf
  subst hf
  rw [hg, args_ses (by simp [hp])]
  have h2 : SEs C nd env X (spliced (argTs env [e])) l o [.int (.ofNat q)] o₁ := ses_cons h1 ses_nil
  refine call_with K keeps_type R D' h2 (by simp) fun ws h2 tk2 γ2 led2 D2 e2 hws => ?_
  simp only [VRs] at hws
  obtain ⟨w, ws', rfl, hw, rfl⟩ := hws
  simp only [VR] at hw
  obtain ⟨tt, rfl⟩ := hw
  refine PySem.call_range_1 ?_
  obtain ⟨D3, e3, n1, n2, n3⟩ := D2.alloc (ob := { cls := .type "range", data := .fields #[.int 0 tk2, .int (Int.ofNat q) tt, .int 1 (tk2 + 1)] }) K V (fun b o q => Heap.get?_push_of_some _ q) (Nat.le_refl _) (Heap.get?_push_size _ rfl)
  have hq1 := nat_lo q
  have hq2 : Int.ofNat q < 64 := by show (q : Int) < 64; omega
  have hq0 := nat_0 q
  refine PySem.wpAny_pyIter_range (PySem.IsRange.new h2 0 (Int.ofNat q) 1 tk2 tt (tk2 + 1)) (small_one (by omega) (by omega) (by omega) (by omega)) ?_
  have hrs : Builtin.Range.rangeSize 0 (Int.ofNat q) 1 = (q : Int) := by
    rw [rangeSize_one]
    split
    · show (q : Int) - 0 = q; omega
    · rename_i z
      have z' : ¬ (0 : Int) < (q : Int) := z
      omega
  rw [hrs]
  have hz : (h2.push { cls := .type "range", data := .fields #[.int 0 tk2, .int (Int.ofNat q) tt, .int 1 (tk2 + 1)] }).objs.size = h2.objs.size + 1 := Heap.size_push ..
  have g4 := Heap.get?_push_size (h2.push { cls := .type "range", data := .fields #[.int 0 tk2, .int (Int.ofNat q) tt, .int 1 (tk2 + 1)] }) (o := { cls := .type "range_iterator", data := .fields #[rawInt 0, rawInt (q : Int), rawInt 1] }) rfl
  obtain ⟨D4, e4, n4, n5, n6⟩ := D3.alloc (ob := { cls := .type "range_iterator", data := .fields #[rawInt 0, rawInt (q : Int), rawInt 1] }) K V (fun b o q => Heap.get?_push_of_some _ q) (Nat.le_refl _) g4
  have hP : ∀ y ∈ [(h2.push { cls := .type "range", data := .fields #[.int 0 tk2, .int (Int.ofNat q) tt, .int 1 (tk2 + 1)] }).objs.size], y ∉ keys ((h2.objs.size, ({ cls := .type "range", data := .fields #[.int 0 tk2, .int (Int.ofNat q) tt, .int 1 (tk2 + 1)] } : Obj)) :: led2) := fun y hy => by
    have := List.mem_singleton.mp hy
    subst this; exact n6
  have D5 := D3.protect (P := [(h2.push { cls := .type "range", data := .fields #[.int 0 tk2, .int (Int.ofNat q) tt, .int 1 (tk2 + 1)] }).objs.size]) hP (fun p hp => .tail _ hp) (fun y hy => by
    have := List.mem_singleton.mp hy
    subst this; exact .head _) D4.hold
  have I := kd_iter (nd := nd) (env := env) (X := [(h2.push { cls := .type "range", data := .fields #[.int 0 tk2, .int (Int.ofNat q) tt, .int 1 (tk2 + 1)] }).objs.size] ++ X) (it := (h2.push { cls := .type "range", data := .fields #[.int 0 tk2, .int (Int.ofNat q) tt, .int 1 (tk2 + 1)] }).objs.size) (K := .rng q) K V.more (by simp) (fun z => n5 (V.own _ z))
  have dd : ({ cls := .type "range_iterator", data := .fields #[rawInt 0, rawInt (q : Int), rawInt 1] } : Obj) = { cls := .type (Kd.rng q).typ, data := .fields ((Kd.rng q).dat 0) } := by
    simp [Kd.typ, Kd.dat]
  have e5 : Ext (ownE env) γ2 led2 γ2 _ := (e3.trans e4).nil
  refine for_core (γ₀ := γ2) (led₀ := led2) (s := ⟨_, s.gens, s.drawn, _, s.os⟩) K V I trivial (.inl ⟨y, p3, rfl, rfl, hk⟩) (hb _) (fun z hz => ?_) (fun z hz => ?_) (fun z hz => ?_) R D5 e5 (k := 0) ⟨trivial, _, .head _, by rw [dd]; exact ⟨rfl, rfl, fun _ => rfl⟩⟩ h fun f h4 tk4 γ4 led4 D4 e4 hf => ?_
  · have := List.mem_singleton.mp hz
    subst this; exact n5
  · have := List.mem_singleton.mp hz
    subst this; exact D3.ge
  · have := List.mem_singleton.mp hz
    subst this; exact fun q => n6 (.tail _ q)
  · exact hQ f h4 tk4 γ4 led4 D4 ((e'.trans e2).nil.trans e4) hf
end
end
section
section
variable {prog : Program} {w : World} {A : Around} {E : Value → Shared → Prop} {R : Result → Shared → Prop} {s : Shared}
theorem compLoop_any {elt target iter : PySem.Expr} {ifs : List PySem.Expr} {scope : Scope} {pos : Pos} {it acc : Value} {env : Env} (I : Nat → Shared → Prop)
    (turn : ∀ n s, I n s → ∀ E' : Value → Shared → Prop, wpAny (model prog w) A (pyNext it) (fun r s₁ => match r with
      | none => R (.ok .next) s₁
      | some v => wpAny (model prog w) A (letOwnedTupleGo target it v) (fun _ s₁' => wpAny (model prog w) A (assign target env v) (fun _ s₂ =>
          wpAny (model prog w) A (forIn ifs true fun c r => if r = true then do let ok ← isTrue c env (eval c env); pure (ForInStep.yield ok) else pure (ForInStep.yield r)) (fun ok s₃ =>
            if ok = true then wpAny (model prog w) A (eval elt env) (fun x s₄ =>
              wpAny (model prog w) A (call (.builtin "list.append") [acc, x]) (fun _ s₅ => ∃ m, m < n ∧ I m s₅) E' s₄) E' s₃
            else ∃ m, m < n ∧ I m s₃) E' s₂) E' s₁') E' s₁) E' s)
    (n : Nat) (h : I n s) : codeAny (model prog w) A (.compLoop (.ListComp elt [⟨target, iter, ifs, 0⟩] scope pos) 0 it acc env) R s := by
  refine codeAny_loop rfl I (fun n s hI => ?_) n h
  show wpAny _ A ((compTurn (.ListComp elt [⟨target, iter, ifs, 0⟩] scope pos) 0 it acc env).onRaise (fun x => do noteFrame x env; theTreesLotGoes x)) _ _ s
  refine wpAny_noted ?_
  rw [compTurn_list]
  refine wpAny_bind (wpAny_standAt (wpAny_bind (wpAny_mono (turn n s hI _) (fun r s₁ h₁ => ?_) fun _ _ h' => h')))
  cases r with
  | none => exact wpAny_pure h₁
  | some v =>
    refine wpAny_bind (wpAny_mono h₁ (fun _ s₁' h₁' => ?_) fun _ _ h' => h')
    refine wpAny_bind (wpAny_mono h₁' (fun _ s₂ h₂ => wpAny_bind (wpAny_mono h₂ (fun ok s₃ h₃ => ?_) fun _ _ h' => h')) fun _ _ h' => h')
    cases ok with
    | false => exact wpAny_pure ⟨rfl, h₃⟩
    | true =>
      exact wpAny_bind (wpAny_bind (wpAny_mono h₃ (fun x s₄ h₄ => wpAny_bind (wpAny_mono h₄ (fun _ s₅ h₅ => wpAny_pure (wpAny_pure ⟨rfl, h₅⟩)) fun _ _ h' => h')) fun _ _ h' => h'))
end
section
variable {C : Cfg} {nd : Nat} {env : Env} {X X' W γ γ' own : List Addr} {led led' : Led} {l l' : Loc} {o o' o₁ : Objs} {A : Around} {s : Shared} {E : Value → Shared → Prop}
theorem At.extO {h h' : Heap} (a : At C env X γ led l o h) (V : EnvOk env X) (e : Ext own γ led γ' led') (ho : ∀ x ∈ own, x ∈ X ∧ x ∉ ownE env) (D : Hold C h' led') (R : Rel C X γ' led' o') : At C env X γ' led' l o' h' :=
  ⟨D, R, a.loc.ext V a.rel e (fun x hx => (ho x hx).1) (fun x hx => ⟨fun q => (ho x hx).2 (by rw [q]; simp [ownE]), fun n c hc q => (ho x hx).2 (by rw [q]; exact List.mem_cons_of_mem _ (mem_lookup hc))⟩), fun n c hc => by
    obtain ⟨oc, ov, h1, h2⟩ := a.cel n c hc
    exact ⟨oc, ov, e.stay _ h1 (fun q => a.rel.apart _ q (V.cells _ _ hc).1) (fun q => (ho _ q).2 (List.mem_cons_of_mem _ (mem_lookup hc))), h2⟩⟩
theorem Stb.lose' (hW : ∀ a ∈ W, a ∈ X') (hX : ∀ a ∈ X, a ∈ X') {a : Addr} {ob : Obj} (h : Stb C X' γ led a ob) : Stb C X γ (Mine.lose W led) a ob := by
  rcases h with h | ⟨h1, h2, h3⟩
  · exact .inl h
  · exact .inr ⟨mem_lose.mpr ⟨h1, fun q => h3 (hW _ q)⟩, h2, fun q => h3 (hX _ q)⟩
theorem Rel.lose' (R : Rel C X' γ led o) (hW : ∀ a ∈ W, a ∈ X') (hX : ∀ a ∈ X, a ∈ X' ∧ a ∉ W) : Rel C X γ (Mine.lose W led) o where
  len := R.len
  nodup := R.nodup
  apart := fun a ha q => R.apart a ha (hX a q).1
  inled := fun a ha => by
    obtain ⟨p, hp, rfl⟩ := List.mem_map.mp (R.inled a (hX a ha).1)
    exact mem_keys (mem_lose.mpr ⟨hp, (hX _ ha).2⟩)
  has := fun i ob a e1 e2 => (R.has i ob a e1 e2).map (fun _ _ => Stb.lose' hW fun a ha => (hX a ha).1) (fun _ _ e => e) fun ob' hm => mem_lose.mpr ⟨hm, fun q => R.apart a (List.mem_of_getElem? e2) (hW _ q)⟩
theorem Hold.lose' {h h' : Heap} (D : Hold C h led) (hk : ∀ b y, b ∉ W → h.get? b = some y → h'.get? b = some y) (hH : ∀ a ∈ W, C.H.objs.size ≤ a) : Hold C h' (Mine.lose W led) :=
  ⟨fun p hp => hk _ _ (mem_lose.mp hp).2 (D.at_ _ (mem_lose.mp hp).1), D.nodup.sublist (List.Sublist.map _ List.filter_sublist), fun p hp => D.above p (mem_lose.mp hp).1,
    fun b y e => hk b y (fun q => Nat.lt_irrefl _ (Nat.lt_of_lt_of_le (Heap.lt_size e) (hH b q))) (D.keep b y e)⟩
noncomputable def cloL (env : Env) : List (PySem.Str × NameKind) → List (PySem.Str × Addr) → List (PySem.Str × Addr)
  | [], acc => acc
  | (n, k) :: r, acc => if k == .free then cloL env r ((n, (env.cells.lookup n).getD 0) :: acc) else cloL env r acc
theorem closureFor_eq {scope : Scope} (h : ∀ x ∈ scope.names, x.2 = .free → ∃ c, env.cells.lookup x.1 = some c) : closureFor scope env = pure (cloL env scope.names []) := by
  unfold closureFor
  have key : ∀ (names : List (PySem.Str × NameKind)) (acc : List (PySem.Str × Addr)), (∀ x ∈ names, x.2 = .free → ∃ c, env.cells.lookup x.1 = some c) →
      (forIn names acc fun x r => match x with | (name, kind) => (if (kind == NameKind.free) = true then do let c ← cellOf env name; pure (ForInStep.yield ((name, c) :: r)) else pure (ForInStep.yield r) : Sem (ForInStep (List (PySem.Str × Addr))))) = pure (cloL env names acc) := by
    intro names
    induction names with
    | nil => intro acc _; rfl
    | cons p r ih =>
      intro acc hh
      obtain ⟨n, k⟩ := p
      have ih' := fun acc => ih acc fun x hx => hh x (.tail _ hx)
      rw [List.forIn_cons]
      cases hk : (k == NameKind.free) with
      | true =>
        have hk' : k = .free := eq_of_beq hk
        obtain ⟨c, hc⟩ := hh _ (.head _) hk'
        simp only [hk, if_true, cloL, hc, Option.getD_some]
        have e : cellOf env n = pure c := by unfold cellOf; rw [hc]
        rw [e]
        exact ih' ((n, c) :: acc)
      | false =>
        simp only [hk, Bool.false_eq_true, if_false, cloL]
        exact ih' acc
  exact (congrArg (fun m => m >>= fun cs => pure cs) (key scope.names [] h)).trans rfl
theorem cloL_mem : ∀ {names : List (PySem.Str × NameKind)} {acc : List (PySem.Str × Addr)}, (∀ x ∈ names, x.2 = .free → ∃ c, env.cells.lookup x.1 = some c) → (∀ p ∈ acc, env.cells.lookup p.1 = some p.2) → ∀ p ∈ cloL env names acc, env.cells.lookup p.1 = some p.2
  | [], acc, _, ha => ha
  | (n, k) :: r, acc, h, ha => by
    unfold cloL
    cases hk : (k == NameKind.free) with
    | true =>
      obtain ⟨c, hc⟩ := h _ (.head _) (eq_of_beq hk)
      simp only [if_true, hc, Option.getD_some]
      exact cloL_mem (fun x hx => h x (.tail _ hx)) fun p hp => by
        rcases List.mem_cons.mp hp with rfl | hp
        · exact hc
        · exact ha p hp
    | false =>
      simp only [Bool.false_eq_true, if_false]
      exact cloL_mem (fun x hx => h x (.tail _ hx)) ha
theorem cloL_has : ∀ {names : List (PySem.Str × NameKind)} {acc : List (PySem.Str × Addr)} {n : PySem.Str}, ((n, NameKind.free) ∈ names ∨ ∃ c, (n, c) ∈ acc) → ∃ c, (n, c) ∈ cloL env names acc
  | [], acc, n, h => by
    rcases h with h | h
    · cases h
    · exact h
  | (m, k) :: r, acc, n, h => by
    unfold cloL
    cases hk : (k == NameKind.free) with
    | true =>
      simp only [if_true]
      refine cloL_has ?_
      rcases h with h | ⟨c, h⟩
      · rcases List.mem_cons.mp h with h | h
        · cases h
          exact .inr ⟨_, .head _⟩
        · exact .inl h
      · exact .inr ⟨c, .tail _ h⟩
    | false =>
      simp only [Bool.false_eq_true, if_false]
      refine cloL_has ?_
      rcases h with h | h
      · rcases List.mem_cons.mp h with h | h
        · cases h
          simp at hk
        · exact .inl h
      · exact .inr h
theorem lookup_of_mem : ∀ {l : List (PySem.Str × Addr)} {n : PySem.Str} {c : Addr}, (n, c) ∈ l → ∃ c', l.lookup n = some c'
  | (m, d) :: r, n, c, h => by
    unfold List.lookup
    cases q : n == m with
    | true => exact ⟨d, rfl⟩
    | false =>
      rcases List.mem_cons.mp h with h | h
      · cases h; simp at q
      · exact lookup_of_mem h
theorem mem_of_lookup : ∀ {l : List (PySem.Str × Addr)} {n : PySem.Str} {c : Addr}, l.lookup n = some c → (n, c) ∈ l
  | (m, d) :: r, n, c, h => by
    unfold List.lookup at h
    cases q : n == m with
    | true => rw [q] at h; cases h; rw [eq_of_beq q]; exact .head _
    | false => rw [q] at h; exact .tail _ (mem_of_lookup h)
theorem mem_of_lookupK : ∀ {l : List (PySem.Str × NameKind)} {n : PySem.Str} {c : NameKind}, l.lookup n = some c → (n, c) ∈ l
  | (m, d) :: r, n, c, h => by
    unfold List.lookup at h
    cases q : n == m with
    | true => rw [q] at h; cases h; rw [eq_of_beq q]; exact .head _
    | false => rw [q] at h; exact .tail _ (mem_of_lookupK h)
structure CScope (env : Env) (scope : Scope) (T : List Nm) : Prop where
  kind : scope.kind = .function
  nocell : ∀ x ∈ scope.names, x.2 ≠ .cell
  names : ∀ x ∈ scope.names, x.2 = .local → scope.names.lookup x.1 = some .local
  free : ∀ x ∈ scope.names, x.2 = .free → env.kindOf x.1 = some .cell
  loc : ∀ x, scope.names.lookup (toS x) = some .local → x ∈ T
theorem lookup_mapK (g : PySem.Str → NameKind → NameKind) : ∀ {l : List (PySem.Str × NameKind)} {n : PySem.Str}, (l.map fun p => (p.1, g p.1 p.2)).lookup n = (l.lookup n).map (g n)
  | [], n => rfl
  | (m, k) :: r, n => by
    have ih := @lookup_mapK g r n
    simp only [List.map_cons]
    unfold List.lookup
    cases q : n == m with
    | true => rw [eq_of_beq q]; rfl
    | false => exact ih
theorem relabel_lookup {scope : Scope} {n : PySem.Str} : (relabel scope env).names.lookup n = (scope.names.lookup n).map fun k => if (k == .free && env.scope.kind == .function && env.kindOf n == some .cell) then .cell else k := by
  have e : (fun (p : PySem.Str × NameKind) => (match p with | (n, k) => if (k == NameKind.free && env.scope.kind == .function && env.kindOf n == some .cell) then (n, NameKind.cell) else (n, k) : PySem.Str × NameKind)) = fun p => (p.1, (fun n k => if (k == NameKind.free && env.scope.kind == .function && env.kindOf n == some .cell) then NameKind.cell else k) p.1 p.2) := by
    funext p
    obtain ⟨n, k⟩ := p
    dsimp only
    split <;> rfl
  show (scope.names.map fun (n, k) => if (k == .free && env.scope.kind == .function && env.kindOf n == some .cell) then (n, NameKind.cell) else (n, k)).lookup n = _
  rw [e]
  exact lookup_mapK (fun n k => if (k == NameKind.free && env.scope.kind == .function && env.kindOf n == some .cell) then NameKind.cell else k)
theorem lk_rmv : ∀ {T : List Nm} {l : Loc} {x : Nm}, lk (rmv T l) x = if hasN T x then none else lk l x
  | T, [], x => by simp [rmv, lk]
  | T, p :: r, x => by
    have ih := @lk_rmv T r x
    unfold rmv
    cases q : hasN T p.1 with
    | true =>
      simp only
      rw [ih]
      cases e : eqN p.1 x with
      | true => rw [eqN_iff] at e; subst e; simp [q]
      | false => simp [lk, e]
    | false =>
      simp only [lk]
      cases e : eqN p.1 x with
      | true => rw [eqN_iff] at e; subst e; simp [q]
      | false => simp only [ih]
theorem hasN_iff : ∀ {ks : List Nm} {n : Nm}, hasN ks n = true ↔ n ∈ ks
  | [], n => by simp [hasN]
  | k :: ks, n => by
    have ih := @hasN_iff ks n
    simp only [hasN, Bool.or_eq_true, eqN_iff, ih, List.mem_cons]
    exact ⟨fun h => h.elim (fun e => .inl e.symm) .inr, fun h => h.elim (fun e => .inl e.symm) .inr⟩
end
end
section
noncomputable def allTV : List TV → TV
  | [] => fun _ o => some (true, o)
  | t :: ts => fun l o => ozM (t l o) (fun o => allTV ts l o) (fun o => some (false, o))
noncomputable def CondsR (C : Cfg) (nd : Nat) (env : Env) (X : List Addr) : List PySem.Expr → List TV → Prop
  | [], ts => ts = []
  | c :: cs, ts => ∃ t ts', ts = t :: ts' ∧ (∀ l o b o', t l o = some (b, o') → ST C nd env X (isTrue c env (eval c env)) l o b o') ∧ CondsR C nd env X cs ts'
section
variable {C : Cfg} {nd : Nat} {env : Env} {X γ : List Addr} {led : Led} {l l' : Loc} {o o' o₁ : Objs} {A : Around} {s : Shared} {E : Value → Shared → Prop}
theorem ifs_false {Q : Bool → Shared → Prop} : ∀ {ifs : List PySem.Expr} {s : Shared}, Q false s →
    wpAny (model C.prog C.w) A (forIn ifs false fun c r => if r = true then do let ok ← isTrue c env (eval c env); pure (ForInStep.yield ok) else pure (ForInStep.yield r)) Q E s
  | [], s, h => by rw [List.forIn_nil]; exact wpAny_pure h
  | c :: cs, s, h => by
    rw [List.forIn_cons]
    simp only [Bool.false_eq_true, if_false]
    refine wpAny_bind (wpAny_pure ?_)
    exact ifs_false h
theorem ifs_true {Q : Bool → Shared → Prop} (R : Room A nd) : ∀ {ifs : List PySem.Expr} {ts : List TV} {s : Shared} {γ : List Addr} {led : Led} {o o' : Objs} {b : Bool}, CondsR C nd env X ifs ts → At C env X γ led l o s.heap → allTV ts l o = some (b, o') →
    (∀ h' tk γ' led', At C env X γ' led' l o' h' → Ext [] γ led γ' led' → Q b { s with heap := h', toks := tk }) →
    wpAny (model C.prog C.w) A (forIn ifs true fun c r => if r = true then do let ok ← isTrue c env (eval c env); pure (ForInStep.yield ok) else pure (ForInStep.yield r)) Q E s
  | [], ts, s, γ, led, o, o', b, h, D, he, hQ => by
    cases h
    cases he
    rw [List.forIn_nil]
    exact wpAny_pure (hQ s.heap s.toks γ led D .refl)
  | c :: cs, ts, s, γ, led, o, o', b, h, D, he, hQ => by
    obtain ⟨t, ts', rfl, h1, h2⟩ := h
    rw [List.forIn_cons]
    simp only [if_true]
    refine oz he (fun o2 ht he => ?_) fun o2 ht he => ?_
    · refine wpAny_bind (wpAny_bind (h1 _ _ _ _ ht A s γ led _ E R D fun h' tk γ' led' D' e' => wpAny_pure ?_))
      exact ifs_true R h2 D' he fun h3 tk3 γ3 led3 D3 e3 => hQ h3 tk3 γ3 led3 D3 (e'.trans e3)
    · cases he
      refine wpAny_bind (wpAny_bind (h1 _ _ _ _ ht A s γ led _ E R D fun h' tk γ' led' D' e' => wpAny_pure ?_))
      exact ifs_false (hQ h' tk γ' led' D' e')
theorem comp_env {scope : Scope} {T : List Nm} {Lc : Addr} {P : List Addr} (V : EnvOk env X) (S : CScope env scope T) (hL : Lc ∉ X) (hP : ∀ a ∈ X, a ∈ P) (hLP : Lc ∈ P) : EnvOk (compEnvC scope (cloL env scope.names []) Lc env) P ∧
    (∀ x, (compEnvC scope (cloL env scope.names []) Lc env).kindOf (toS x) = some .local → x ∈ T) ∧
    (∀ n c, (compEnvC scope (cloL env scope.names []) Lc env).kindOf n = some .cell → (cloL env scope.names []).lookup n = some c → env.kindOf n = some .cell ∧ env.cells.lookup n = some c) := by
  have hfree : ∀ x ∈ scope.names, x.2 = .free → ∃ c, env.cells.lookup x.1 = some c := fun x hx h => V.hasc _ (S.free x hx h)
  have hm := cloL_mem (acc := []) hfree (by simp)
  have lkc : ∀ n c, (cloL env scope.names []).lookup n = some c → env.cells.lookup n = some c := fun n c h => hm _ (mem_of_lookup h)
  have kc : ∀ n, (compEnvC scope (cloL env scope.names []) Lc env).kindOf n = some .cell → (n, NameKind.free) ∈ scope.names ∧ env.kindOf n = some .cell := fun n h => by
    have h' : (relabel scope env).names.lookup n = some .cell := h
    rw [relabel_lookup] at h'
    obtain ⟨k, hk, hk2⟩ := Option.map_eq_some_iff.mp h'
    have hmem := mem_of_lookupK hk
    split at hk2
    · rename_i hc
      simp only [Bool.and_eq_true, beq_iff_eq] at hc
      obtain ⟨⟨h1, h2⟩, h3⟩ := hc
      subst h1
      exact ⟨hmem, h3⟩
    · subst hk2
      exact absurd rfl (S.nocell _ hmem)
  refine ⟨⟨S.kind, V.globals, V.builtins, hLP, fun n c h => ?_, fun n n' c h h' => ?_, fun p hp => ?_, fun n h => ?_⟩, fun x h => ?_, fun n c h h' => ⟨(kc n h).2, lkc n c h'⟩⟩
  · have := (V.cells n c (lkc n c h)).1
    exact ⟨hP _ this, fun e => hL (by have e2 : c = Lc := e; rw [← e2]; exact this)⟩
  · exact V.inj n n' c (lkc n c h) (lkc n' c h')
  · exact hP _ (V.cells _ _ (hm p hp)).1
  · obtain ⟨c, hc⟩ := cloL_has (env := env) (acc := []) (.inl (kc n h).1)
    exact lookup_of_mem hc
  · have h' : (relabel scope env).names.lookup (toS x) = some .local := h
    rw [relabel_lookup] at h'
    obtain ⟨k, hk, hk2⟩ := Option.map_eq_some_iff.mp h'
    split at hk2
    · cases hk2
    · subst hk2
      exact S.loc x hk
theorem At.comp {scope : Scope} {T : List Nm} {Lc : Addr} {oL : Obj} {h h' : Heap} (V : EnvOk env X) (S : CScope env scope T) (D : At C env X γ led l o h) (hk : ∀ b y, h.get? b = some y → h'.get? b = some y) (hn : h.objs.size ≤ Lc) (hg : h'.get? Lc = some oL) (hno : NsO oL fun _ => none) (K : C.Ok) :
    At C (compEnvC scope (cloL env scope.names []) Lc env) ([Lc] ++ X) γ ((Lc, oL) :: led) (rmv T l) o h' := by
  obtain ⟨D1, e1, n1, n2, n3⟩ := D.alloc K V hk hn hg
  have hP : ∀ a ∈ [Lc], a ∉ keys led := by simpa using n3
  have hsub : ∀ p ∈ led, p ∈ (Lc, oL) :: led := fun p hp => .tail _ hp
  obtain ⟨V2, h1, h2⟩ := comp_env (P := [Lc] ++ X) V S n2 (fun a ha => List.mem_append_right _ ha) (by simp)
  obtain ⟨oL0, m0, a1, a2, a3⟩ := D.loc
  refine ⟨D1.hold, D.rel.protect hP hsub (by simp [keys]), ⟨oL, fun _ => none, .head _, hno, fun x av hl => ⟨fun hk => ?_, fun hk => ?_⟩⟩, fun n c hc => ?_⟩
  · rw [lk_rmv, if_pos (hasN_iff.mpr (h1 x hk))] at hl
    cases hl
  · rw [lk_rmv] at hl
    split at hl
    · cases hl
    · obtain ⟨c, hc⟩ := V2.hasc _ hk
      obtain ⟨hk', hc'⟩ := h2 _ c hk hc
      obtain ⟨c', oc, v, b1, b2, b3, b4⟩ := (a3 x av hl).2 hk'
      rw [hc'] at b1
      cases b1
      exact ⟨c, oc, v, hc, hsub _ b2, b3, VR.map (fun _ _ => Stb.protect hP hsub) (fun _ _ e => e) _ _ b4⟩
  · have hfree : ∀ x ∈ scope.names, x.2 = .free → ∃ c, env.cells.lookup x.1 = some c := fun x hx h => V.hasc _ (S.free x hx h)
    have hc' := cloL_mem (acc := []) hfree (by simp) _ (mem_of_lookup hc)
    obtain ⟨oc, ov, b1, b2⟩ := D.cel n c hc'
    exact ⟨oc, ov, hsub _ b1, b2⟩
theorem kd_self {it : Addr} {K : Kd} {k : Nat} {io : Obj} {Q : Value → Shared → Prop} (hg : s.heap.get? it = some io) (ho : K.obj k io) (hQ : Q (.ref it) s) : wpAny (model C.prog C.w) A (pyIter (.ref it)) Q E s := by
  obtain ⟨hc, hd, hx⟩ := ho
  cases K with
  | tup a vs n xs => exact wpAny_pyIter_tupleiter ⟨io, hg, hc, hd⟩ hQ
  | list i a => exact wpAny_pyIter_listiter ⟨io, hg, hc, hd⟩ hQ
  | fd a es n ks vs => exact wpAny_pyIter_keyiter (i := k) ⟨io, hg, hc, hd⟩ hQ
  | dict i a n ep => exact wpAny_pyIter_keyiter (i := k) ⟨io, hg, hc, hd⟩ hQ
  | str x t =>
    cases ha : (toS x).cps.all (· < 128) with
    | true =>
      have ht : (Kd.str x t).typ = "str_ascii_iterator" := by simp only [Kd.typ, ha, if_true]
      exact wpAny_pyIter_striter_ascii ⟨io, hg, by rw [hc, ht], hd⟩ hQ
    | false =>
      have ht : (Kd.str x t).typ = "str_iterator" := by simp only [Kd.typ, ha]; rfl
      exact wpAny_pyIter_striter_wide ⟨io, hg, by rw [hc, ht], hd⟩ hQ
  | rng n =>
    have g2 := hg
    rw [hx rfl] at g2
    exact wpAny_pyIter_rangeiter g2 hQ
end
end
section
section
variable {C : Cfg} {nd : Nat} {env : Env} {X γ γ₀ : List Addr} {led led₀ : Led} {l l' : Loc} {o o' o₁ : Objs} {A : Around} {s : Shared} {E : Value → Shared → Prop}
theorem comp_loop {cenv : Env} {it a : Addr} {K : Kd} {t iter elt : PySem.Expr} {ifs : List PySem.Expr} {scope : Scope} {pos : Pos} {xs : List Nm} {ts : List TV} {ev1 : EV} {i : Nat} {R : Result → Shared → Prop} {lx : Loc} (KO : C.Ok) (V : EnvOk cenv X) (hX : it ∈ X) (hn : it ∉ ownE cenv)
    (T : TgtOk cenv t xs) (hloc : ∀ x ∈ xs, cenv.kindOf (toS x) = some .local) (hc : CondsR C nd cenv X ifs ts) (he : ∀ l o r o', ev1 l o = some (r, o') → SE C nd cenv X (eval elt cenv) l o r o') (RM : Room A nd)
    (D : At C cenv X γ led l o s.heap) (e₀ : Ext [cenv.locals, it] γ₀ led₀ γ led) (hg : γ₀[i]? = some a) {n k : Nat} (S : ItSt C X it K k γ led) (h : compGo K.src xs (allTV ts) ev1 i lx n k l o = some o')
    (hR : ∀ h₁ h' tk γ' led' l', At C cenv X γ' led' l' o' h₁ → (∀ b y, b ∉ [it] → h₁.get? b = some y → h'.get? b = some y) → Ext [cenv.locals, it] γ₀ led₀ γ' led' → R (.ok .next) { s with heap := h', toks := tk }) :
    codeAny (model C.prog C.w) A (.compLoop (.ListComp elt [⟨t, iter, ifs, 0⟩] scope pos) 0 (.ref it) (.ref a) cenv) R s := by
  have I : IterOk C nd cenv X it [it] K.src (ItSt C X it K) (fun k _ γ led => ItSt C X it K (k + 1) γ led) (fun _ => True) := kd_iter KO V hX hn
  have hS : ∀ x ∈ xs, StoreOk cenv [cenv.locals] x := fun x hx => ⟨by simp, fun hk => by rw [hloc x hx] at hk; cases hk⟩
  have hOX : ∀ y ∈ [cenv.locals], y ∈ X := by simp [V.loc]
  have ownL : ∀ x ∈ [cenv.locals], x ∈ X ∧ x ∉ [it] := fun x hx => by
    have : x = cenv.locals := by simpa using hx
    subst this
    exact ⟨V.loc, fun q => hn (by have : cenv.locals = it := by simpa using q
                                  rw [← this]; simp [ownE])⟩
  have hWX : ∀ x ∈ [it], x ∈ X := by simp [hX]
  have ow1 : ∀ x ∈ [it], x ∈ [cenv.locals, it] := by simp
  have ow2 : ∀ x ∈ [cenv.locals], x ∈ [cenv.locals, it] := by simp
  have no : ∀ x ∈ ([] : List Addr), x ∈ X ∧ x ∉ [it] := fun x hx => nomatch hx
  refine compLoop_any (I := fun q s' => ∃ h₁ tk₁ γ₁ led₁ l₁ o₁ k₁, s' = { s with heap := h₁, toks := tk₁ } ∧ At C cenv X γ₁ led₁ l₁ o₁ h₁ ∧ Ext [cenv.locals, it] γ₀ led₀ γ₁ led₁ ∧ ItSt C X it K k₁ γ₁ led₁ ∧ compGo K.src xs (allTV ts) ev1 i lx q k₁ l₁ o₁ = some o') ?_ n ⟨s.heap, s.toks, γ, led, l, o, k, rfl, D, e₀, S, h⟩
  rintro q s' ⟨h₁, tk₁, γ₁, led₁, l₁, o₁, k₁, rfl, D₁, e₁, S₁, hgo⟩ E'
  cases q with
  | zero => exact nsM hgo
  | succ q =>
    refine oa hgo fun qv hs hg1 => ?_
    cases qv with
    | none =>
      cases hg1
      exact I.done RM D₁ S₁ hs fun h' tk hk => hR h₁ h' tk γ₁ led₁ l₁ D₁ hk e₁
    | some vv =>
      refine oa (x := bindT xs vv l₁) hg1 fun l2 hbt hg2 => ?_
      refine I.item RM D₁ S₁ hs fun w h2 tk2 led2 D2 e2 M2 hv2 => ?_
      refine I.go trivial D2 M2 fun h3 led3 D3 e3 S3 => ?_
      refine tgt_ok KO V hOX hS RM T hbt D3 (VR.ext e3 hWX _ _ hv2) fun h4 tk4 led4 D4 e4 => ?_
      have S4 := I.stay S3 (fun b hb q => D3.rel.apart b hb q) e4 ownL
      have e14 : Ext [cenv.locals, it] γ₀ led₀ γ₁ led4 := ((e₁.trans (e2.own ow1)).trans (e3.own ow1)).trans (e4.own ow2)
      refine oz hg2 (fun o5 hcv hgo => ?_) fun o5 hcv hgo => ?_
      · refine ifs_true RM hc D4 hcv fun h5 tk5 γ5 led5 D5 e5 => ?_
        rw [if_pos rfl]
        refine ob hgo fun r6 o6 hev hgo => oa hgo fun oc ho6 hgo => oa hgo fun ys hy hgo => oi hgo fun hz hgo => ?_
        refine he _ _ _ _ hev A _ γ5 led5 _ E' RM D5 fun w6 h6 tk6 γ6 led6 D6 e6 hw6 => ?_
        have e16 : Ext [cenv.locals, it] γ₀ led₀ γ6 led6 := (e14.trans e5.nil).trans e6.nil
        refine append_ok V D6 (pre_get e16 hg) (by rw [ho6, jLst_ok hy]) hw6 hz fun h7 tk7 led7 D7 e7 => ?_
        exact ⟨q, Nat.lt_succ_self q, h7, tk7, γ6, led7, _, _, k₁ + 1, rfl, D7, e16.trans e7.nil, I.stay (I.stay (I.stay S4 (fun b hb q => D4.rel.apart b hb q) e5 no) (fun b hb q => D5.rel.apart b hb q) e6 no) (fun b hb q => D6.rel.apart b hb q) e7 no, hgo⟩
      · refine ifs_true RM hc D4 hcv fun h5 tk5 γ5 led5 D5 e5 => ?_
        rw [if_neg Bool.false_ne_true]
        exact ⟨q, Nat.lt_succ_self q, h5, tk5, γ5, led5, _, _, k₁ + 1, rfl, D5, e14.trans e5.nil, I.stay S4 (fun b hb q => D4.rel.apart b hb q) e5 no, hgo⟩
noncomputable def CPost (C : Cfg) (env : Env) (X γ : List Addr) (led : Led) (l : Loc) (o' : Objs) (i : Nat) (F : Value → Addr → Shared → Prop) (s : Shared) : Prop :=
  ∀ h' tk γ' led' a Lc oLc m, At C env ([Lc] ++ X) γ' led' l o' h' → Ext [] γ led γ' led' → (Lc, oLc) ∈ led' → NsO oLc m → γ'[i]? = some a → Lc ∉ keys led → Lc ∉ X → C.H.objs.size ≤ Lc → F (.ref a) Lc { s with heap := h', toks := tk }
theorem comp_core {t iter elt : PySem.Expr} {ifs : List PySem.Expr} {scope : Scope} {pos spos : Pos} {xs : List Nm} {ts : List TV} {ev1 : EV} {v : AV} {src : Src} {n : Nat} {use : Option (Value → Sem Unit)} {Q : Value → Shared → Prop} {lx : Loc} (K : C.Ok) (V : EnvOk env X)
    (S : CScope env scope ([46, 48] :: xs)) (hp : plainE iter = true) (h1 : SE C nd env X (eval iter env) l o v o₁) (hs : srcOf o₁ v = some src)
    (T : ∀ Lc, TgtOk (compEnvC scope (cloL env scope.names []) Lc env) t xs ∧ ∀ x ∈ xs, (compEnvC scope (cloL env scope.names []) Lc env).kindOf (toS x) = some .local)
    (hc : ∀ Lc P, EnvOk (compEnvC scope (cloL env scope.names []) Lc env) P → CondsR C nd (compEnvC scope (cloL env scope.names []) Lc env) P ifs ts)
    (he : ∀ Lc P, EnvOk (compEnvC scope (cloL env scope.names []) Lc env) P → ∀ l o r o', ev1 l o = some (r, o') → SE C nd (compEnvC scope (cloL env scope.names []) Lc env) P (eval elt (compEnvC scope (cloL env scope.names []) Lc env)) l o r o')
    (h : compGo src xs (allTV ts) ev1 o₁.length lx n 0 (rmv ([46, 48] :: xs) l) (o₁ ++ [.list []]) = some o') (RM : Room A nd) (D : At C env X γ led l o s.heap)
    (hQ : ∀ {γ' led'}, Ext [] γ led γ' led' → CPost C env X γ' led' l o' o₁.length (fun a Lc s' => compPost (model C.prog C.w) A E use Q a Lc (.ok .next) s') s) :
    wpAny (model C.prog C.w) A (comprehension (.ListComp elt [⟨t, iter, ifs, 0⟩] scope pos) scope env spos (newList []) false (eval iter env) use) Q E s := by
  have hfree : ∀ x ∈ scope.names, x.2 = .free → ∃ c, env.cells.lookup x.1 = some c := fun x hx h => V.hasc _ (S.free x hx h)
  refine wpAny_comprehension_free (g := ⟨t, iter, ifs, 0⟩) (gs := []) rfl (folded_plain hp) (closureFor_eq hfree) S.kind S.names (h1 A s γ led _ E RM D fun vv h' tk γ' led' D' e' hv => ?_)
  refine iter_ok K V D' hv hs fun it io h2 kd n1 n2 hk D2 hsrc hf hob => ?_
  have hitX : it ∉ X := fun q => n1 (D'.rel.inled _ q)
  have hP : ∀ a ∈ [it], a ∉ keys led' := by simpa using n1
  have hsub : ∀ p ∈ led', p ∈ (it, io) :: led' := fun p hp => .tail _ hp
  have D3 : At C env ([it] ++ X) γ' ((it, io) :: led') l o₁ h2 := D'.protect hP hsub (by simp [keys]) D2.hold
  refine wpAny_newObj_type ?_ (by show (0 : Nat) ≤ sizeLine; exact Nat.zero_le _)
  obtain ⟨D4, e4, hl4⟩ := D3.allocObj (ob := listO [] 0) (ao := .list []) K V.more (fun b o q => Heap.get?_push_of_some _ q) (Nat.le_refl _) (Heap.get?_push_size _ rfl) (fun γ₂ e₂ hγ => ⟨[], _, .head _, ⟨⟨0, rfl⟩, D3.ge⟩, by simp only [VRs]⟩)
  refine wpAny_newFunctionEnv S.nocell (by intro y hy; simp at hy) (fun h5 hns hsb => ?_) S.kind
  dsimp only at hns hsb ⊢
  obtain ⟨oL, hgL, hnoL⟩ := ns_o hns
  have hno0 : NsO oL fun _ => none := by simpa using hnoL
  let Lc := (h2.push (listO [] 0)).objs.size
  have hkL : ∀ b y, (h2.push (listO [] 0)).get? b = some y → h5.get? b = some y := fun b y e => hsb.extBut b y (Nat.ne_of_lt (Heap.lt_size e)) (Heap.get?_push_of_some _ e)
  have D5 := D4.comp (h' := h5) (Lc := Lc) V.more (T := [46, 48] :: xs) ⟨S.kind, S.nocell, S.names, S.free, S.loc⟩ hkL (Nat.le_refl _) hgL hno0 K
  obtain ⟨D6, e6, m1, m2, m3⟩ := D4.alloc (h' := h5) (a := Lc) (ob := oL) K V.more hkL (Nat.le_refl _) hgL
  have V5 : EnvOk (compEnvC scope (cloL env scope.names []) Lc env) ([Lc] ++ ([it] ++ X)) := (comp_env (P := [Lc] ++ ([it] ++ X)) V.more S m2 (fun a ha => List.mem_append_right _ ha) (by simp)).1
  have hLit : Lc ≠ it := fun q => m3 (by rw [q]; exact .tail _ (.head _))
  have hLX : Lc ∉ X := fun q => m2 (List.mem_append_right _ q)
  have hn : it ∉ ownE (compEnvC scope (cloL env scope.names []) Lc env) := fun q => by
    rcases List.mem_cons.mp q with q | q
    · exact hLit q.symm
    · obtain ⟨p, hp, e⟩ := List.mem_map.mp q
      have := cloL_mem (acc := []) hfree (by simp) p hp
      exact hitX (e ▸ (V.cells _ _ this).1)
  have P3 : ∀ a ∈ [Lc], a ∉ keys ((h2.objs.size, listO [] 0) :: (it, io) :: led') := by simpa using m3
  have sub3 : ∀ p ∈ (h2.objs.size, listO [] 0) :: (it, io) :: led', p ∈ (Lc, oL) :: (h2.objs.size, listO [] 0) :: (it, io) :: led' := fun p hp => .tail _ hp
  have S5 : ItSt C ([Lc] ++ ([it] ++ X)) it kd 0 (γ' ++ [h2.objs.size]) ((Lc, oL) :: (h2.objs.size, listO [] 0) :: (it, io) :: led') := by
    refine ⟨?_, io, .tail _ (.tail _ (.head _)), hob⟩
    have f1 := Kd.facts_map (X' := [it] ++ X) (γ' := γ') (led' := (it, io) :: led') (fun _ _ => Stb.protect hP hsub) (fun _ _ e => e) hf
    have f2 := Kd.facts_map (X' := [it] ++ X) (γ' := γ' ++ [h2.objs.size]) (led' := (h2.objs.size, listO [] 0) :: (it, io) :: led') (fun a ob h => h.ext e4 (by simp)) (fun i a h => pre_get e4 h) f1
    exact Kd.facts_map (fun _ _ => Stb.protect P3 sub3) (fun _ _ e => e) f2
  obtain ⟨T1, T2⟩ := T Lc
  have fin : ∀ h₁ h' tk γ1 led1 l1, At C (compEnvC scope (cloL env scope.names []) Lc env) ([Lc] ++ ([it] ++ X)) γ1 led1 l1 o' h₁ → (∀ b y, b ∉ [it] → h₁.get? b = some y → h'.get? b = some y) →
      Ext [Lc, it] (γ' ++ [h2.objs.size]) ((Lc, oL) :: (h2.objs.size, listO [] 0) :: (it, io) :: led') γ1 led1 → compPost (model C.prog C.w) A E use Q (.ref h2.objs.size) Lc (.ok .next) { s with heap := h', toks := tk } := by
    intro h₁ h'' tk γ1 led1 l1 D7 hk7 e7
    have lit : it ∉ keys led' := n1
    have lLc : Lc ∉ keys led' := fun q => m3 (.tail _ (.tail _ q))
    have lls : h2.objs.size ∉ keys led' := fun q => Nat.lt_irrefl _ (D3.hold.lt (.tail _ q))
    have hH7 : Hold C h'' (lose [it] led1) := D7.hold.lose' hk7 (by simpa using n2)
    have hR7 : Rel C ([Lc] ++ X) γ1 (lose [it] led1) o' := D7.rel.lose' (by simp) fun a ha => by
      rcases List.mem_append.mp ha with ha | ha
      · exact ⟨List.mem_append_left _ ha, fun q => hLit (by have h1 : a = Lc := by simpa using ha
                                                            have h2 : a = it := by simpa using q
                                                            rw [← h1, h2])⟩
      · exact ⟨List.mem_append_right _ (List.mem_append_right _ ha), fun q => hitX (by have h2 : a = it := by simpa using q
                                                                                       rw [← h2]; exact ha)⟩
    have Hb : Hold C h5 ((Lc, oL) :: led') := by
      have old5 : ∀ b y, h'.get? b = some y → h5.get? b = some y := fun b y e => hkL b y (Heap.get?_push_of_some _ (hk b y e))
      refine ⟨fun p hp => ?_, ?_, fun p hp => ?_, fun b y e => old5 b y (D'.hold.keep b y e)⟩
      · rcases List.mem_cons.mp hp with rfl | hp
        · exact hgL
        · exact old5 _ _ (D'.hold.at_ _ hp)
      · exact List.nodup_cons.mpr ⟨lLc, D'.hold.nodup⟩
      · rcases List.mem_cons.mp hp with rfl | hp
        · exact D6.hold.above _ (.head _)
        · exact D'.hold.above _ hp
    have Db : At C env ([Lc] ++ X) γ' ((Lc, oL) :: led') l o₁ h5 := D'.protect (by simpa using lLc) (fun p hp => .tail _ hp) (by simp [keys]) Hb
    obtain ⟨nw, hnw, hnw2⟩ := e7.pre
    have kk : ∀ a ∈ keys ((Lc, oL) :: led'), a ∈ keys ((Lc, oL) :: (h2.objs.size, listO [] 0) :: (it, io) :: led') := fun a ha => by
      rcases List.mem_cons.mp ha with rfl | ha
      · exact .head _
      · exact .tail _ (.tail _ (.tail _ ha))
    have eb : Ext [Lc] γ' ((Lc, oL) :: led') γ1 (lose [it] led1) := by
      refine ⟨⟨[h2.objs.size] ++ nw, by rw [hnw, List.append_assoc], fun a ha q => ?_⟩, fun p hp hg ho => ?_, fun a ha => ?_⟩
      · rcases List.mem_append.mp ha with ha | ha
        · have : a = h2.objs.size := by simpa using ha
          subst this
          rcases List.mem_cons.mp q with q | q
          · have : h2.objs.size < Lc := by show h2.objs.size < (h2.push (listO [] 0)).objs.size; rw [Heap.size_push]; exact Nat.lt_succ_self _
            exact Nat.lt_irrefl _ (q ▸ this)
          · exact lls q
        · exact hnw2 a ha (kk a q)
      · have hpk : p ∈ (Lc, oL) :: (h2.objs.size, listO [] 0) :: (it, io) :: led' := by
          rcases List.mem_cons.mp hp with rfl | hp
          · exact .head _
          · exact .tail _ (.tail _ (.tail _ hp))
        have hpl : p ∈ led' := by
          rcases List.mem_cons.mp hp with rfl | hp
          · exact absurd (by simp) ho
          · exact hp
        have hne : p.1 ≠ it := fun q => lit (q ▸ mem_keys hpl)
        refine mem_lose.mpr ⟨e7.stay p hpk (fun q => ?_) (fun q => ?_), by simpa using hne⟩
        · rcases List.mem_append.mp q with q | q
          · exact hg q
          · have : p.1 = h2.objs.size := by simpa using q
            exact lls (this ▸ mem_keys hpl)
        · rcases List.mem_cons.mp q with q | q
          · exact ho (by simp [q])
          · exact hne (by simpa using q)
      · have h9 := e7.keys a (kk a ha)
        obtain ⟨p, hp, rfl⟩ := List.mem_map.mp h9
        refine mem_keys (mem_lose.mpr ⟨hp, fun q => ?_⟩)
        have q : p.1 = it := by simpa using q
        rcases List.mem_cons.mp ha with ha | ha
        · exact hLit (ha.symm.trans q)
        · exact lit (q ▸ ha)
    have hLown : Lc ∉ ownE env := fun q => hLX (V.own _ q)
    have D8 : At C env ([Lc] ++ X) γ1 (lose [it] led1) l o' h'' := Db.extO V.more eb (fun x hx => by
      have : x = Lc := by simpa using hx
      subst this; exact ⟨by simp, hLown⟩) hH7 hR7
    have e8 : Ext [] γ' led' γ1 (lose [it] led1) := by
      refine ⟨?_, fun p hp hg _ => eb.stay p (.tail _ hp) hg fun q => lLc (by have : p.1 = Lc := by simpa using q
                                                                              rw [← this]; exact mem_keys hp), fun a ha => eb.keys a (.tail _ ha)⟩
      obtain ⟨nn, hh1, hh2⟩ := eb.pre
      exact ⟨nn, hh1, fun a ha q => hh2 a ha (.tail _ q)⟩
    obtain ⟨oL7, mm, q1, q2, _⟩ := D7.loc
    have q1' : (Lc, oL7) ∈ led1 := q1
    refine hQ e' h'' tk γ1 _ h2.objs.size Lc oL7 mm D8 e8 (mem_lose.mpr ⟨q1', by simpa using hLit⟩) q2 ?_ lLc hLX (D6.hold.up (.head _) hnoL.noseq)
    exact pre_get e7 hl4
  have loop : ∀ tk, codeAny (model C.prog C.w) A (.compLoop (.ListComp elt [⟨t, iter, ifs, 0⟩] scope pos) 0 (.ref it) (.ref h2.objs.size) (compEnvC scope (cloL env scope.names []) Lc env)) (compPost (model C.prog C.w) A E use Q (.ref h2.objs.size) Lc) { s with heap := h5, toks := tk } := by
    intro tk
    rw [← hsrc] at h
    exact comp_loop (s := ⟨h5, s.gens, s.drawn, tk, s.os⟩) (γ₀ := γ' ++ [h2.objs.size]) (led₀ := (Lc, oL) :: (h2.objs.size, listO [] 0) :: (it, io) :: led') K V5 (by simp) hn T1 T2 (hc Lc _ V5) (he Lc _ V5) RM D5 .refl hl4 S5 h fun h₁ h' tk γ1 led1 l1 D7 hk7 e7 => fin h₁ h' tk γ1 led1 l1 D7 hk7 e7
  exact codeAny_compStart_list (loop _) (kd_self (k := 0) (D5.hold.at_ _ (.tail _ (.tail _ (.head _)))) hob (loop _))
end
end
section
section
variable {C : Cfg} {nd : Nat} {env : Env} {X γ γ₀ : List Addr} {led led₀ : Led} {l l' : Loc} {o o' o₁ : Objs} {A : Around} {s : Shared} {E : Value → Shared → Prop}
theorem se_comp {t iter elt : PySem.Expr} {ifs : List PySem.Expr} {scope : Scope} {pos : Pos} {xs : List Nm} {ts : List TV} {ev1 : EV} {v : AV} {src : Src} {n : Nat} {lx : Loc} (K : C.Ok) (V : EnvOk env X)
    (S : CScope env scope ([46, 48] :: xs)) (hp : plainE iter = true) (h1 : SE C nd env X (eval iter env) l o v o₁) (hs : srcOf o₁ v = some src)
    (T : ∀ Lc, TgtOk (compEnvC scope (cloL env scope.names []) Lc env) t xs ∧ ∀ x ∈ xs, (compEnvC scope (cloL env scope.names []) Lc env).kindOf (toS x) = some .local)
    (hc : ∀ Lc P, EnvOk (compEnvC scope (cloL env scope.names []) Lc env) P → CondsR C nd (compEnvC scope (cloL env scope.names []) Lc env) P ifs ts)
    (he : ∀ Lc P, EnvOk (compEnvC scope (cloL env scope.names []) Lc env) P → ∀ l o r o', ev1 l o = some (r, o') → SE C nd (compEnvC scope (cloL env scope.names []) Lc env) P (eval elt (compEnvC scope (cloL env scope.names []) Lc env)) l o r o')
    (h : compGo src xs (allTV ts) ev1 o₁.length lx n 0 (rmv ([46, 48] :: xs) l) (o₁ ++ [.list []]) = some o') :
    SE C nd env X (eval (.ListComp elt [⟨t, iter, ifs, 0⟩] scope pos) env) l o (.ref o₁.length) o' := by
  intro A s γ led Q E RM D hQ
  rw [eval_ListComp]
  show wpAny _ _ (comprehension (.ListComp elt [⟨t, iter, ifs, 0⟩] scope pos) scope env _ (newList []) false (eval iter env) none) _ _ _
  refine comp_core K V S hp h1 hs T hc he h RM D fun {γ' led'} e1 => ?_
  intro h' tk γ2 led2 a Lc oLc m D2 e2 hm hno hg n1 n2 n3
  refine ⟨m, hno.ns (D2.hold.at_ _ hm), fun h'' hsb => ?_⟩
  have D3 := D2.drop (W := [Lc]) (h' := h'') V (by simpa using n2) (fun b y hb hy => (hsb.2 b (by simpa using hb)).trans hy) (by simpa using n3)
  refine hQ _ h'' tk γ2 _ D3 (e1.trans (e2.lose (by simpa using n1))) ?_
  simp only [VR]
  exact ⟨a, hg, rfl⟩
theorem swaps_yes {elt : PySem.Expr} {gens : List Comprehension} {scope : Scope} {pos p : Pos} {x : PySem.Str} {ln : Nat} (V : EnvOk env X) (hx : env.kindOf x = some .local) (hl : (p.line == pos.line) = true) (hn : (scope.names.any fun q => q.1 == x && (q.2 == .local || q.2 == .cell)) = false) :
    swapsWithSole [.Name x p] (.ListComp elt gens scope pos) ln env = pure true := by
  show swapsWith (.ListComp elt gens scope pos) (some (.Name x p)) ln env = pure true
  unfold swapsWith
  have hb : (env.blockKind == .function) = true := by unfold Env.blockKind; rw [V.kind]; rfl
  have hp' : (PySem.Expr.ListComp elt gens scope pos).pos = pos := rfl
  simp only [hb, hx, hp', hl, hn, beq_self_eq_true, Bool.and_self, Bool.not_false, Bool.and_true]
theorem ss_asgC {t iter elt : PySem.Expr} {ifs : List PySem.Expr} {scope : Scope} {pos p spos : Pos} {x : Nm} {xs : List Nm} {ts : List TV} {ev1 : EV} {v : AV} {src : Src} {n : Nat} {lx : Loc} (K : C.Ok) (V : EnvOk env X) (hx : env.kindOf (toS x) = some .local)
    (hsw : swapsWithSole [.Name (toS x) p] (.ListComp elt [⟨t, iter, ifs, 0⟩] scope pos) spos.line env = pure true)
    (S : CScope env scope ([46, 48] :: xs)) (hp : plainE iter = true) (h1 : SE C nd env X (eval iter env) l o v o₁) (hs : srcOf o₁ v = some src)
    (T : ∀ Lc, TgtOk (compEnvC scope (cloL env scope.names []) Lc env) t xs ∧ ∀ x ∈ xs, (compEnvC scope (cloL env scope.names []) Lc env).kindOf (toS x) = some .local)
    (hc : ∀ Lc P, EnvOk (compEnvC scope (cloL env scope.names []) Lc env) P → CondsR C nd (compEnvC scope (cloL env scope.names []) Lc env) P ifs ts)
    (he : ∀ Lc P, EnvOk (compEnvC scope (cloL env scope.names []) Lc env) P → ∀ l o r o', ev1 l o = some (r, o') → SE C nd (compEnvC scope (cloL env scope.names []) Lc env) P (eval elt (compEnvC scope (cloL env scope.names []) Lc env)) l o r o')
    (h : compGo src xs (allTV ts) ev1 o₁.length lx n 0 (rmv ([46, 48] :: xs) l) (o₁ ++ [.list []]) = some o') :
    SS C nd env X (exec (.Assign [.Name (toS x) p] (.ListComp elt [⟨t, iter, ifs, 0⟩] scope pos) spos) env) l o .next (stv l x (.ref o₁.length)) o' := by
  intro A s γ led Q E RM D hQ
  rw [exec_Assign_arm]
  refine wpAny_bind (wpAny_standAt ?_)
  rw [hsw]
  refine wpAny_bind (wpAny_pure ?_)
  simp only [if_true]
  refine wpAny_bind ?_
  show wpAny _ _ (do let _ ← comprehension (.ListComp elt [⟨t, iter, ifs, 0⟩] scope pos) scope env _ (newList []) false (eval iter env) (some fun v => assign (.Name (toS x) p) env v)) _ _ _
  refine wpAny_bind ?_
  refine comp_core K V S hp h1 hs T hc he h RM D fun {γ' led'} e1 => ?_
  intro h' tk γ2 led2 a Lc oLc m D2 e2 hm hno hg n1 n2 n3
  have hv : VR C ([Lc] ++ X) γ2 led2 (.ref o₁.length) (.ref a) := by simp only [VR]; exact ⟨a, hg, rfl⟩
  refine assign_name V.more storeOk_all (.inl hx) D2 hv fun h3 tk3 led3 D3 e3 => ?_
  have hm3 : (Lc, oLc) ∈ led3 := e3.stay _ hm (fun q => D3.rel.apart _ q (by simp)) (fun q => n2 (V.own _ q))
  refine ⟨m, hno.ns (D3.hold.at_ _ hm3), fun h'' hsb => ?_⟩
  have D4 := D3.drop (W := [Lc]) (h' := h'') V (by simpa using n2) (fun b y hb hy => (hsb.2 b (by simpa using hb)).trans hy) (by simpa using n3)
  refine wpAny_pure (wpAny_pure (hQ .next h'' tk3 γ2 _ D4 (e1.nil.trans ((e2.nil.trans e3).lose (by simpa using n1))) rfl))
end
end
section
noncomputable def SEL (C : Cfg) (nd : Nat) (env : Env) (X : List Addr) : List PySem.Expr → Loc → Objs → List AV → Objs → Prop
  | [], l, o, rs, o' => rs = [] ∧ o' = o
  | e :: es, l, o, rs, o' => ∃ r rs' o₁, rs = r :: rs' ∧ SE C nd env X (eval e env) l o r o₁ ∧ SEL C nd env X es l o₁ rs' o'
theorem sel_ses {C : Cfg} {nd : Nat} {env : Env} {X : List Addr} : ∀ {es : List PySem.Expr} {l : Loc} {o : Objs} {rs : List AV} {o' : Objs}, SEL C nd env X es l o rs o' → SEs C nd env X (spliced (argTs env es)) l o rs o'
  | [], l, o, rs, o', h => by obtain ⟨rfl, rfl⟩ := h; exact ses_nil
  | e :: es, l, o, rs, o', h => by
    obtain ⟨r, rs', o₁, rfl, h1, h2⟩ := h
    exact ses_cons h1 (sel_ses h2)
theorem sel_nil {C : Cfg} {nd : Nat} {env : Env} {X : List Addr} {es : List PySem.Expr} {l : Loc} {o : Objs} {rs : List AV} {o' : Objs} (h : SEL C nd env X es l o rs o') (e : es = []) : rs = [] ∧ o' = o := by subst e; exact h
theorem sel_len {C : Cfg} {nd : Nat} {env : Env} {X : List Addr} : ∀ {es : List PySem.Expr} {l : Loc} {o : Objs} {rs : List AV} {o' : Objs}, SEL C nd env X es l o rs o' → rs.length = es.length
  | [], l, o, rs, o', h => by obtain ⟨rfl, rfl⟩ := h; rfl
  | e :: es, l, o, rs, o', h => by
    obtain ⟨r, rs', o₁, rfl, h1, h2⟩ := h
    rw [List.length_cons, List.length_cons, sel_len h2]
noncomputable def KeysE : List (Option PySem.Expr) → List Nm → Prop
  | [], ks => ks = []
  | e :: r, ks => ∃ k ks' n p, ks = k :: ks' ∧ e = some (.Constant (.str (toS k)) n p) ∧ KeysE r ks'
theorem keysE_len : ∀ {es : List (Option PySem.Expr)} {ks : List Nm}, KeysE es ks → es.length = ks.length ∧ es.all (·.isSome) = true
  | [], ks, h => by simp only [KeysE] at h; subst h; exact ⟨rfl, rfl⟩
  | e :: r, ks, h => by
    obtain ⟨k, ks', n, p, rfl, rfl, h2⟩ := h
    have := keysE_len h2
    exact ⟨by rw [List.length_cons, List.length_cons, this.1], by simp [this.2]⟩
noncomputable def PR (C : Cfg) (X γ : List Addr) (led : Led) : List (Value × Value) → List Nm → List AV → Prop
  | [], ks, rs => ks = [] ∧ rs = []
  | p :: ps, ks, rs => ∃ k ks' r rs' t, ks = k :: ks' ∧ rs = r :: rs' ∧ p.1 = .str (toS k) t ∧ VR C X γ led r p.2 ∧ PR C X γ led ps ks' rs'
section
variable {C : Cfg} {nd : Nat} {env : Env} {X γ γ' own : List Addr} {led led' : Led} {l : Loc} {o o' o₁ : Objs} {A : Around} {s : Shared} {E : Value → Shared → Prop}
theorem PR.ext (e : Ext own γ led γ' led') (ho : ∀ x ∈ own, x ∈ X) : ∀ {ps : List (Value × Value)} {ks : List Nm} {rs : List AV}, PR C X γ led ps ks rs → PR C X γ' led' ps ks rs
  | [], ks, rs, h => h
  | p :: ps, ks, rs, h => by
    obtain ⟨k, ks', r, rs', t, h1, h2, h3, h4, h5⟩ := h
    exact ⟨k, ks', r, rs', t, h1, h2, h3, VR.ext e ho _ _ h4, PR.ext e ho h5⟩
theorem pairs_ok {pos : Pos} : ∀ {keys : List (Option PySem.Expr)} {values : List PySem.Expr} {ks : List Nm} {rs : List AV} {o o' : Objs} {s : Shared} {γ : List Addr} {led : Led} {Q : List (Value × Value) → Shared → Prop}, KeysE keys ks → ks.length = values.length → SEL C nd env X values l o rs o' → Room A nd → At C env X γ led l o s.heap →
    (∀ ps h' tk γ' led', At C env X γ' led' l o' h' → Ext [] γ led γ' led' → PR C X γ' led' ps ks rs → Q ps { s with heap := h', toks := tk }) → wpAny (model C.prog C.w) A (evalPairs (pairTrees keys values env pos)) Q E s
  | [], values, ks, rs, o, o', s, γ, led, Q, hk, hl, hv, R, D, hQ => by
    simp only [KeysE] at hk
    subst hk
    have : values = [] := List.length_eq_zero_iff.mp hl.symm
    subst this
    obtain ⟨rfl, rfl⟩ := hv
    exact evalPairs_nil (hQ [] s.heap s.toks γ led D .refl ⟨rfl, rfl⟩)
  | e :: r, values, ks, rs, o, o', s, γ, led, Q, hk, hl, hv, R, D, hQ => by
    obtain ⟨k, ks', n, p, rfl, rfl, h2⟩ := hk
    cases values with
    | nil => simp at hl
    | cons v vs =>
      obtain ⟨x, rs', o₁, rfl, h3, h4⟩ := hv
      refine pairTrees_cons_walk ?_
      have hkey : SE C nd env X (eval (.Constant (.str (toS k)) n p) env) l o (.str k) o := se_const rfl
      refine hkey A s γ led _ E R D fun kv h1' tk1 γ1 led1 D1 e1 hkv => ?_
      simp only [VR] at hkv
      obtain ⟨t, rfl⟩ := hkv
      refine h3 A _ γ1 led1 _ E R D1 fun w h2' tk2 γ2 led2 D2 e2 hw => ?_
      refine pairs_ok h2 (by simpa using hl) h4 R D2 fun ps h3' tk3 γ3 led3 D3 e3 hp => ?_
      exact hQ _ h3' tk3 γ3 led3 D3 ((e1.trans e2).trans e3) ⟨k, ks', x, rs', t, rfl, rfl, rfl, VR.ext e3 (by simp) _ _ hw, hp⟩
theorem storeAll_ok {d : Addr} (V : EnvOk env X) (hd : d ∈ X) (hn : d ∉ ownE env) : ∀ {ps : List (Value × Value)} {ks ks0 : List Nm} {rs xs0 : List AV} {vs0 : List Value} {es : List DictEntry} {n : Nat} {s : Shared} {led : Led} {Q : PUnit → Shared → Prop}, PR C X γ led ps ks rs → (ks0 ++ ks).Nodup → (ks0 ++ ks).length ≤ 900 →
    At C env X γ led l o s.heap → (d, dictOf es n) ∈ led → Ents C.w es ks0 vs0 → VRs C X γ led xs0 vs0 →
    (∀ h' tk led' es' n' vs', At C env X γ led' l o h' → Ext [d] γ led γ led' → (d, dictOf es' n') ∈ led' → Ents C.w es' (ks0 ++ ks) vs' → VRs C X γ led' (xs0 ++ rs) vs' → Q PUnit.unit { s with heap := h', toks := tk }) →
    wpAny (model C.prog C.w) A (storeAll d ps) Q E s
  | [], ks, ks0, rs, xs0, vs0, es, n, s, led, Q, hp, hnd, hz, D, hm, he, hx, hQ => by
    obtain ⟨rfl, rfl⟩ := hp
    unfold storeAll
    rw [List.forIn_nil]
    exact wpAny_pure (hQ s.heap s.toks led es n vs0 D .refl hm (by simpa using he) (by simpa using hx))
  | p :: ps, ks, ks0, rs, xs0, vs0, es, n, s, led, Q, hp, hnd, hz, D, hm, he, hx, hQ => by
    obtain ⟨k, ks', r, rs', t, rfl, rfl, hpk, hpv, hp'⟩ := hp
    obtain ⟨pk, pv⟩ := p
    dsimp only at hpk hpv
    subst hpk
    unfold storeAll
    rw [List.forIn_cons]
    have hz0 : es.length ≤ 1000 := by rw [he.length.1]; simp at hz; omega
    refine wpAny_bind (wpAny_bind (dictSet_exact (D.hold.at_ _ hm) he hz0 fun h' a b => wpAny_pure ?_))
    obtain ⟨D2, e2⟩ := D.poke V (mem_keys hm) hd hn b a (D.hold.up hm dict_noseq)
    have ho : ∀ x ∈ [d], x ∈ X := by simp [hd]
    have hk0 : dhas ks0 k = false := by
      cases q : dhas ks0 k with
      | false => rfl
      | true => exact absurd rfl ((List.nodup_append.mp hnd).2.2 k (dhas_iff.mp q) k (.head _))
    have hen := (ents_put (n := k) (t := t) (v := pv) he).2 hk0
    have hx2 := (VRs.ext e2 ho _ _ hx).append (VRs.one (VR.ext e2 ho _ _ hpv))
    have eq1 : ks0 ++ k :: ks' = (ks0 ++ [k]) ++ ks' := by simp
    have eq2 : xs0 ++ r :: rs' = (xs0 ++ [r]) ++ rs' := by simp
    rw [eq1] at hnd hz
    refine storeAll_ok V hd hn (PR.ext e2 ho hp') hnd hz D2 (mem_upd_self (mem_keys hm)) hen hx2 fun h3 tk3 led3 es3 n3 vs3 D3 e3 hm3 he3 hx3 => ?_
    rw [← eq1] at he3
    rw [← eq2] at hx3
    exact hQ h3 tk3 led3 es3 n3 vs3 D3 (e2.trans e3) hm3 he3 hx3
theorem At.adopt {d : Addr} {ao : AObj} {h : Heap} (V : EnvOk env X) (hX : d ∉ X) (D : At C env ([d] ++ X) γ led l o h) (hi : ObjIs C X (γ ++ [d]) led d ao) : At C env X (γ ++ [d]) led l (o ++ [ao]) h := by
  have dγ : d ∉ γ := fun q => D.rel.apart _ q (by simp)
  have hS : ∀ a ob, Stb C ([d] ++ X) γ led a ob → Stb C X (γ ++ [d]) led a ob := fun a ob x => by
    rcases x with x | ⟨x1, x2, x3⟩
    · exact .inl x
    · refine .inr ⟨x1, fun q => ?_, fun q => x3 (List.mem_append_right _ q)⟩
      rcases List.mem_append.mp q with q | q
      · exact x2 q
      · exact x3 (List.mem_append_left _ q)
  have hγ : ∀ (i : Nat) (a : Addr), γ[i]? = some a → (γ ++ [d])[i]? = some a := fun i a e => by
    rw [List.getElem?_append_left (List.getElem?_eq_some_iff.mp e).1]; exact e
  obtain ⟨oL, m, h1, h2, h3⟩ := D.loc
  refine ⟨D.hold, ⟨by simp [D.rel.len], ?_, fun a ha q => ?_, fun a ha => D.rel.inled a (List.mem_append_right _ ha), fun i ob a e1 e2 => ?_⟩, ⟨oL, m, h1, h2, fun x av hl => ⟨fun hk => ?_, fun hk => ?_⟩⟩, D.cel⟩
  · exact List.nodup_append.mpr ⟨D.rel.nodup, by simp, fun x hx y hy => by simp at hy; subst hy; exact fun q => dγ (q ▸ hx)⟩
  · rcases List.mem_append.mp ha with ha | ha
    · exact D.rel.apart a ha (List.mem_append_right _ q)
    · have : a = d := by simpa using ha
      subst this; exact hX q
  · by_cases hi' : i < o.length
    · rw [List.getElem?_append_left hi'] at e1
      rw [List.getElem?_append_left (by rw [D.rel.len]; exact hi')] at e2
      exact (D.rel.has i ob a e1 e2).map hS hγ fun _ q => q
    · have hl1 := (List.getElem?_eq_some_iff.mp e1).1
      simp at hl1
      have : i = o.length := by omega
      subst this
      have hl : (γ ++ [d])[o.length]? = some d := by rw [← D.rel.len]; simp
      rw [hl] at e2
      cases e2
      simp at e1
      subst e1
      exact hi
  · obtain ⟨v, a, b⟩ := (h3 x av hl).1 hk
    exact ⟨v, a, VR.map hS hγ _ _ b⟩
  · obtain ⟨c, oc, v, a, b, c', f⟩ := (h3 x av hl).2 hk
    exact ⟨c, oc, v, a, b, c', VR.map hS hγ _ _ f⟩
theorem se_dic0 {pos : Pos} (K : C.Ok) (V : EnvOk env X) : SE C nd env X (eval (.Dict [] [] pos) env) l o (.ref o.length) (o ++ [.dict [] [] (some 0)]) := by
  intro A s γ led Q E R D hQ
  refine PySem.wpAny_Dict_empty ?_
  have e0 : ({ cls := .type "dict", data := .dict #[] } : Obj) = dictOf [] 0 := rfl
  rw [e0]
  obtain ⟨D2, e2, hl⟩ := D.allocObj (ob := dictOf [] 0) (ao := .dict [] [] (some 0)) K V (fun b o q => Heap.get?_push_of_some _ q) (Nat.le_refl _) (Heap.get?_push_size _ rfl) (fun γ₂ e₂ hγ => ⟨[], 0, [], .head _, fun m q => Option.some.inj q, ⟨rfl, rfl⟩, by simp, by simp only [VRs]⟩)
  refine hQ _ _ s.toks _ _ D2 e2 ?_
  simp only [VR]
  exact ⟨_, hl, rfl⟩
theorem se_dic {keys : List (Option PySem.Expr)} {values : List PySem.Expr} {pos : Pos} {ks : List Nm} {rs : List AV} (K : C.Ok) (V : EnvOk env X) (hk : KeysE keys ks) (hne : ks ≠ []) (hl : ks.length = values.length) (hlen : ks.length ≤ 15) (hnd : ks.Nodup)
    (hv : ∀ P, EnvOk env P → SEL C nd env P values l o rs o') : SE C nd env X (eval (.Dict keys values pos) env) l o (.ref o'.length) (o' ++ [.dict ks rs none]) := by
  intro A s γ led Q E R D hQ
  obtain ⟨k1, k2⟩ := keysE_len hk
  refine wpAny_Dict_any k2 (by rw [k1, hl]) (fun e => hne (by rw [e] at k1; exact List.length_eq_zero_iff.mp k1.symm)) (by rw [k1]; exact hlen) ?_
  have e0 : ({ cls := .type "dict", data := .dict #[] } : Obj) = dictOf [] 0 := rfl
  rw [e0]
  obtain ⟨D1, e1, n1, n2, n3⟩ := D.alloc (ob := dictOf [] 0) K V (fun b o q => Heap.get?_push_of_some _ q) (Nat.le_refl _) (Heap.get?_push_size _ rfl)
  have D2 : At C env ([s.heap.objs.size] ++ X) γ ((s.heap.objs.size, dictOf [] 0) :: led) l o (s.heap.push (dictOf [] 0)) := D.protect (P := [s.heap.objs.size]) (by simpa using n3) (fun p hp => .tail _ hp) (fun a ha => List.mem_singleton.mp ha ▸ .head _) D1.hold
  refine pairs_ok (s := { s with heap := s.heap.push (dictOf [] 0) }) hk hl (hv _ V.more) R D2 fun ps h' tk γ' led' D3 e3 hp => ?_
  have hm : (s.heap.objs.size, dictOf [] 0) ∈ led' := e3.stay _ (.head _) (fun q => n1 q) (by simp)
  have hown : s.heap.objs.size ∉ ownE env := fun q => n2 (V.own _ q)
  refine storeAll_ok (s := ⟨h', s.gens, s.drawn, tk, s.os⟩) (ks0 := []) (xs0 := []) (vs0 := []) V.more (by simp) hown hp (by simpa using hnd) (by simp; omega) D3 hm ⟨rfl, rfl⟩ (by simp only [VRs]) fun h4 tk4 led4 es4 m4 vs4 D4 e4 hm4 he4 hx4 => ?_
  simp only [List.nil_append] at he4 hx4
  have hS : ∀ a ob, Stb C ([s.heap.objs.size] ++ X) γ' led4 a ob → Stb C X (γ' ++ [s.heap.objs.size]) led4 a ob := fun a ob x => by
    rcases x with x | ⟨x1, x2, x3⟩
    · exact .inl x
    · refine .inr ⟨x1, fun q => ?_, fun q => x3 (List.mem_append_right _ q)⟩
      rcases List.mem_append.mp q with q | q
      · exact x2 q
      · exact x3 (List.mem_append_left _ q)
  have hγ : ∀ (i : Nat) (a : Addr), γ'[i]? = some a → (γ' ++ [s.heap.objs.size])[i]? = some a := fun i a e => by
    rw [List.getElem?_append_left (List.getElem?_eq_some_iff.mp e).1]; exact e
  have D5 := D4.adopt V n2 (ao := .dict ks rs none) ⟨es4, m4, vs4, hm4, fun x q => (nomatch q), he4, hnd, VRs.map hS hγ _ _ hx4⟩
  refine hQ _ h4 tk4 _ led4 D5 ?_ ?_
  · obtain ⟨nw, hnw, hnw2⟩ := e3.pre
    refine ⟨⟨nw ++ [s.heap.objs.size], by rw [hnw, List.append_assoc], fun a ha q => ?_⟩, fun p hp hg _ => ?_, fun a ha => ?_⟩
    · rcases List.mem_append.mp ha with ha | ha
      · exact hnw2 a ha (.tail _ q)
      · have : a = s.heap.objs.size := by simpa using ha
        subst this; exact n3 q
    · refine e4.stay p (e3.stay p (.tail _ hp) hg (by simp)) (fun q => ?_) (fun q => n3 (List.mem_singleton.mp q ▸ mem_keys hp))
      rw [hnw] at q
      rcases List.mem_append.mp q with q | q
      · exact hg q
      · exact hnw2 _ q (.tail _ (mem_keys hp))
    · exact e4.keys a (e3.keys a (.tail _ ha))
  · simp only [VR]
    exact ⟨s.heap.objs.size, by rw [← D4.rel.len]; simp, rfl⟩
end
end
section
noncomputable def SCc (C : Cfg) (nd : Nat) (f : Value) (args : List AV) (o : Objs) (r : AV) (o' : Objs) : Prop :=
  ∀ (A : Around) (s : Shared) (X γ : List Addr) (led : Led) (vs : List Value) (R : Result → Shared → Prop), Room A nd → C.H.objs.size ≤ s.heap.objs.size → Hold C s.heap led → Rel C X γ led o → VRs C X γ led args vs →
    (∀ v h' tk γ' led', Hold C h' led' → Rel C X γ' led' o' → Ext [] γ led γ' led' → VR C X γ' led' r v → R (.ok (.ret v)) { s with heap := h', toks := tk }) →
    codeAny (model C.prog C.w) A (.call f ⟨vs, []⟩) R s
theorem hold_ge {C : Cfg} {h : Heap} {led : Led} (D : Hold C h led) (ne : Nz C led) : C.H.objs.size ≤ h.objs.size := by
  obtain ⟨a, ha, hz⟩ := ne
  exact Nat.le_of_lt (Nat.lt_of_le_of_lt hz (D.lt ha))
theorem SCc.sc {C : Cfg} {nd : Nat} {f : Value} {args : List AV} {o o' : Objs} {r : AV} (h : SCc C nd f args o r o') : SC C nd f args o r o' := by
  intro A s X γ led vs Q E R ne H Rl hv hQ
  exact wpAny_call (h A s X γ led vs _ R (hold_ge H ne) H Rl hv fun v h' tk γ' led' a b c d => hQ v h' tk γ' led' a b c d)
noncomputable def bget (k : PySem.Str → Option NameKind) (loc : Bool) : List (PySem.Str × Value) → PySem.Str → Option Value
  | [], _ => none
  | (n, v) :: r, y => match bget k loc r y with
    | some w => some w
    | none => if (k n = some .local) = (loc = true) ∧ y = n then some v else none
theorem bindL_get {k : PySem.Str → Option NameKind} {y : PySem.Str} (hy : k y = some .local) : ∀ {pn : List Nm} {vs : List Value} {m : PySem.Str → Option Value} {x : Nm} {v : Value}, y = toS x → pn.Nodup → dgetV pn vs x = some v → bindL k ((pn.map toS).zip vs) m y = some v ∨ False
  | [], vs, m, x, v, e, hn, h => by simp [dgetV] at h
  | p :: pn, [], m, x, v, e, hn, h => by simp [dgetV] at h
  | p :: pn, w :: vs, m, x, v, e, hn, h => by
    rw [List.nodup_cons] at hn
    simp only [dgetV] at h
    simp only [List.map_cons, List.zip_cons_cons]
    unfold bindL
    have later : ∀ {pn : List Nm} {vs : List Value} {m : PySem.Str → Option Value}, x ∉ pn → bindL k ((pn.map toS).zip vs) m y = m y := by
      intro pn
      induction pn with
      | nil => intro vs m _; rfl
      | cons q r ih =>
        intro vs m hx
        cases vs with
        | nil => rfl
        | cons u us =>
          simp only [List.map_cons, List.zip_cons_cons]
          unfold bindL
          rw [ih fun z => hx (.tail _ z)]
          split
          · have : y ≠ toS q := fun z => hx (by rw [e] at z; rw [toS_inj z]; exact .head _)
            simp [this]
          · rfl
    by_cases q : p = x
    · subst q
      simp at h
      subst h
      left
      rw [later hn.1]
      subst e
      simp [hy]
    · simp [q] at h
      exact bindL_get hy e hn.2 h
theorem bindC_get {k : PySem.Str → Option NameKind} {y : PySem.Str} (hy : k y ≠ some .local) : ∀ {pn : List Nm} {vs : List Value} {m : PySem.Str → Option Value} {x : Nm} {v : Value}, y = toS x → pn.Nodup → dgetV pn vs x = some v → bindC k ((pn.map toS).zip vs) m y = some v
  | [], vs, m, x, v, e, hn, h => by simp [dgetV] at h
  | p :: pn, [], m, x, v, e, hn, h => by simp [dgetV] at h
  | p :: pn, w :: vs, m, x, v, e, hn, h => by
    rw [List.nodup_cons] at hn
    simp only [dgetV] at h
    simp only [List.map_cons, List.zip_cons_cons]
    unfold bindC
    have later : ∀ {pn : List Nm} {vs : List Value} {m : PySem.Str → Option Value}, x ∉ pn → bindC k ((pn.map toS).zip vs) m y = m y := by
      intro pn
      induction pn with
      | nil => intro vs m _; rfl
      | cons q r ih =>
        intro vs m hx
        cases vs with
        | nil => rfl
        | cons u us =>
          simp only [List.map_cons, List.zip_cons_cons]
          unfold bindC
          rw [ih fun z => hx (.tail _ z)]
          split
          · rfl
          · have : y ≠ toS q := fun z => hx (by rw [e] at z; rw [toS_inj z]; exact .head _)
            simp [this]
    by_cases q : p = x
    · subst q
      simp at h
      subst h
      rw [later hn.1]
      subst e
      simp [hy]
    · simp [q] at h
      exact bindC_get hy e hn.2 h
theorem lk_zip {C : Cfg} {X γ : List Addr} {led : Led} : ∀ {pn : List Nm} {xs : List AV} {vs : List Value} {x : Nm} {av : AV}, lk (pn.zip xs) x = some av → VRs C X γ led xs vs → ∃ v, dgetV pn vs x = some v ∧ VR C X γ led av v
  | [], xs, vs, x, av, h, hv => by simp [lk] at h
  | p :: pn, [], vs, x, av, h, hv => by simp [lk] at h
  | p :: pn, y :: xs, vs, x, av, h, hv => by
    simp only [VRs] at hv
    obtain ⟨v, vs', rfl, h1, h2⟩ := hv
    simp only [List.zip_cons_cons, lk] at h
    simp only [dgetV, eqN_dec]
    cases q : eqN p x with
    | true => rw [q] at h; cases h; exact ⟨v, rfl, h1⟩
    | false => rw [q] at h; exact lk_zip h h2
theorem cellsFrom_has : ∀ {names : List (PySem.Str × NameKind)} {acc : List (PySem.Str × Addr)} {n : Nat} {x : PySem.Str}, ((x, NameKind.cell) ∈ names ∨ ∃ c, (x, c) ∈ acc) → ∃ c, (x, c) ∈ cellsFrom n names acc
  | [], acc, n, x, h => by
    rcases h with h | h
    · cases h
    · exact h
  | (m, k) :: r, acc, n, x, h => by
    unfold cellsFrom
    cases hk : (k == NameKind.cell) with
    | true =>
      simp only [if_true]
      refine cellsFrom_has ?_
      rcases h with h | ⟨c, h⟩
      · rcases List.mem_cons.mp h with h | h
        · cases h; exact .inr ⟨_, .head _⟩
        · exact .inl h
      · exact .inr ⟨c, .tail _ h⟩
    | false =>
      simp only [Bool.false_eq_true, if_false]
      refine cellsFrom_has ?_
      rcases h with h | h
      · rcases List.mem_cons.mp h with h | h
        · cases h; simp at hk
        · exact .inl h
      · exact .inr h
theorem cellsAre_mem {cm : PySem.Str → Option Value} {cs : List (PySem.Str × Addr)} {cells : List (Addr × Obj)} (x : CellsAre cm cs cells) : (cells.map (·.1)) = cs.map (·.2) ∧ ∀ n c, (n, c) ∈ cs → ∃ o, (c, o) ∈ cells ∧ o.data = .cell (cm n) := by
  induction x with
  | nil => exact ⟨rfl, fun n c h => by cases h⟩
  | @cons n c o cs cells hd h ih =>
    refine ⟨by simp [ih.1], fun m d hm => ?_⟩
    rcases List.mem_cons.mp hm with q | hm
    · cases q; exact ⟨o, .head _, hd⟩
    · obtain ⟨o', h1, h2⟩ := ih.2 m d hm
      exact ⟨o', .tail _ h1, h2⟩
structure DefIs (C : Cfg) (f : Addr) (pn : List Nm) (dv : List Value) (body : List Stmt) (scope : Scope) : Prop where
  data : ∃ oc od name qual params dV kV doc pm an cdv ct osl, C.K.lookup f = some ⟨oc, od, .func (fnOf name qual params body scope dV kV doc pm an cdv ct), osl⟩ ∧ codeIn C.K cdv qual = true ∧
    ∀ (s : Shared) (vs : List Value), C.K.In s.heap → vs.length + dv.length = pn.length → BindsTo s (fnOf name qual params body scope dV kV doc pm an cdv ct) ⟨vs, []⟩ ((pn.map toS).zip (vs ++ dv))
  kinds : ∀ x ∈ pn, scope.names.lookup (toS x) = some .local ∨ scope.names.lookup (toS x) = some .cell
  nodup : pn.Nodup
  cells : ((cellsFrom 0 scope.names []).map (·.1)).Nodup
  co : scope.isCoroutine = false
  gen : scope.isGenerator = false
  kind : scope.kind = .function
section
variable {C : Cfg} {nd : Nat}
theorem def_code {f : Addr} {pn : List Nm} {body : List Stmt} {scope : Scope} {args da : List AV} {dv : List Value} {o o' : Objs} {fl : FL} {l' : Loc} (K : C.Ok) (T : C.H.NoLimit) (DI : DefIs C f pn dv body scope) (hda : ∀ X γ led, VRs C X γ led da dv) (hlen : args.length + da.length = pn.length)
    (hb : ∀ env X, EnvOk env X → env.scope = scope → SS C nd env X (execs body env) (pn.zip (args ++ da)) o fl l' o') : SCc C (nd + 1) (.ref f) args o (match fl with | .ret v => v | .next => .none) o' := by
  intro A s X γ led vs R RM hge H Rl hv hR
  obtain ⟨oc, od, name, qual, params, dV, kV, doc, pm, an, cdv, ct, osl, ho, hcd, hbind⟩ := DI.data
  have KI := K.k.keeps H.keep
  have hvl : vs.length + dv.length = pn.length := by rw [hv.length, (hda X γ led).length, hlen]
  have hv2 := hv.append (hda X γ led)
  refine codeAny_call_function (by have := RM.2.1; omega) (KI _ _ ho) rfl DI.co DI.gen rfl (codeRec_of KI hcd) (hbind s vs KI hvl _ _ _ _ ?_)
  have hz : ∀ x ∈ (pn.map toS).zip (vs ++ dv), ∃ y ∈ pn, x.1 = toS y := fun x hx => by
    have := (List.of_mem_zip hx).1
    obtain ⟨y, hy, e⟩ := List.mem_map.mp this
    exact ⟨y, hy, e.symm⟩
  have hlk : ∀ {x : PySem.Str} {n : Nat}, scope.names.lookup x = some .cell → ∃ c, (cellsFrom n scope.names []).lookup x = some c := fun {x n} h => by
    obtain ⟨c, hc⟩ := cellsFrom_has (names := scope.names) (acc := []) (n := n) (.inl (mem_of_lookupK h))
    exact lookup_of_mem hc
  refine wpAny_newFunctionEnv_cells DI.kind (fun x hx => ?_) fun env he s' x => ?_
  · obtain ⟨y, hy, e⟩ := hz x hx
    rw [e]
    rcases DI.kinds y hy with h | h
    · exact .inl h
    · obtain ⟨c, hc⟩ := hlk (n := s.heap.objs.size + 1) h
      exact .inr ⟨h, by rw [show (fnOf name qual params body scope dV kV doc pm an cdv ct).scope = scope from rfl, hc]; rfl⟩
  subst he
  refine ⟨(T.keeps H.keep).keeps x.toInCall.keep, codeAny_func ?_⟩
  obtain ⟨h₁, tk, rfl, _⟩ := x.done
  have hk₁ := x.toInCall.keep
  have hL : s.heap.objs.size ≤ s.heap.objs.size := Nat.le_refl _
  let env : Env := newEnv scope s.heap.objs.size mainGlobals (cellsFrom (s.heap.objs.size + 1) scope.names []) (qual ++ ".<locals>.") (some f) cdv none builtinsNs
  have hnd : ((cellsFrom (s.heap.objs.size + 1) scope.names []).map (·.1)).Nodup := cellsFrom_names scope.names 0 (s.heap.objs.size + 1) [] [] rfl ▸ DI.cells
  obtain ⟨cells, NC, Y⟩ := Cl.news (h₀ := s.heap) (L := s.heap.objs.size) (Nat.le_refl _) (cs := cellsFrom (s.heap.objs.size + 1) scope.names []) (h := h₁) (cm := bindC env.kindOf ((pn.map toS).zip (vs ++ dv)) fun _ => none)
    fun n c hm => ⟨x.cell n c (lookup_of_mem_nodup hnd hm), x.above n c hm⟩
  obtain ⟨Y1, Y2⟩ := cellsAre_mem Y
  obtain ⟨oL, hgL, hnoL⟩ := ns_o x.toInCall.ns
  have hgL : h₁.get? s.heap.objs.size = some oL := hgL
  have hP1 : ∀ a ∈ cells.map (·.1), s.heap.objs.size < a := fun a ha => by
    rw [Y1] at ha
    obtain ⟨p, hp, rfl⟩ := List.mem_map.mp ha
    exact x.above p.1 p.2 hp
  have lnew : ∀ a ∈ s.heap.objs.size :: cells.map (·.1), s.heap.objs.size ≤ a := fun a ha => by
    rcases List.mem_cons.mp ha with rfl | ha
    · exact Nat.le_refl _
    · exact Nat.le_of_lt (hP1 a ha)
  have hP : ∀ a ∈ s.heap.objs.size :: cells.map (·.1), a ∉ keys led := fun a ha q => Nat.lt_irrefl _ (Nat.lt_of_lt_of_le (H.lt q) (lnew a ha))
  have hsub : ∀ p ∈ led, p ∈ ((s.heap.objs.size, oL) :: cells) ++ led := fun p hp => List.mem_append_right _ hp
  have hin : ∀ a ∈ s.heap.objs.size :: cells.map (·.1), a ∈ keys (((s.heap.objs.size, oL) :: cells) ++ led) := fun a ha => by
    rcases List.mem_cons.mp ha with rfl | ha
    · exact .head _
    · obtain ⟨p, hp, rfl⟩ := List.mem_map.mp ha
      exact mem_keys (List.mem_append_left _ (.tail _ hp))
  have H1 : Hold C h₁ (((s.heap.objs.size, oL) :: cells) ++ led) := by
    refine ⟨fun p hp => ?_, ?_, fun p hp => ?_, fun b y e => hk₁ b y (H.keep b y e)⟩
    · rcases List.mem_append.mp hp with hp | hp
      · rcases List.mem_cons.mp hp with rfl | hp
        · exact hgL
        · exact (NC p hp).1
      · exact hk₁ _ _ (H.at_ p hp)
    · unfold keys
      rw [List.map_append]
      refine List.nodup_append.mpr ⟨?_, H.nodup, fun a ha b hb e => ?_⟩
      · rw [List.map_cons]
        refine List.nodup_cons.mpr ⟨fun q => Nat.lt_irrefl _ (hP1 _ q), ?_⟩
        rw [Y1]
        exact List.pairwise_map.mpr x.apart
      · subst e
        rw [List.map_cons] at ha
        exact hP a ha hb
    · rcases List.mem_append.mp hp with hp | hp
      · have : p.1 ∈ s.heap.objs.size :: cells.map (·.1) := by
          rcases List.mem_cons.mp hp with rfl | hp
          · exact .head _
          · exact .tail _ (List.mem_map_of_mem hp)
        exact .inl (Nat.le_trans hge (lnew _ this))
      · exact H.above p hp
  have cin : ∀ {n : PySem.Str} {c : Addr}, env.cells.lookup n = some c → (n, c) ∈ cellsFrom (s.heap.objs.size + 1) scope.names [] := fun h => mem_of_lookup h
  have cadr : ∀ {n : PySem.Str} {c : Addr}, (n, c) ∈ cellsFrom (s.heap.objs.size + 1) scope.names [] → c ∈ cells.map (·.1) := fun {n c} h => by
    rw [Y1]; exact List.mem_map.mpr ⟨(n, c), h, rfl⟩
  have V : EnvOk env ((s.heap.objs.size :: cells.map (·.1)) ++ X) := by
    refine ⟨DI.kind, rfl, rfl, List.mem_append_left _ (.head _), fun n c h => ⟨List.mem_append_left _ (.tail _ (cadr (cin h))), fun e => ?_⟩, fun n n' c h h' => ?_, fun p hp => List.mem_append_left _ (.tail _ (cadr (n := p.1) (c := p.2) hp)), fun n h => hlk h⟩
    · have := x.above n c (cin h)
      have e' : c = s.heap.objs.size := e
      have this' : s.heap.objs.size < c := this
      exact Nat.ne_of_gt this' e'
    · exact name_of_addr x.apart (cin h) (cin h')
  have D : At C env ((s.heap.objs.size :: cells.map (·.1)) ++ X) γ (((s.heap.objs.size, oL) :: cells) ++ led) (pn.zip (args ++ da)) o h₁ := by
    refine ⟨H1, Rl.protect hP hsub hin, ⟨oL, _, List.mem_append_left _ (.head _), hnoL, fun y av hl => ⟨fun hk => ?_, fun hk => ?_⟩⟩, fun n c hc => ?_⟩
    · obtain ⟨v, h1, h2⟩ := lk_zip hl hv2
      refine ⟨v, (bindL_get (k := env.kindOf) hk rfl DI.nodup h1).elim id fun q => q.elim, VR.map (fun _ _ => Stb.protect hP hsub) (fun _ _ e => e) _ _ h2⟩
    · obtain ⟨v, h1, h2⟩ := lk_zip hl hv2
      obtain ⟨c, hc⟩ := V.hasc _ hk
      obtain ⟨oc, h3, h4⟩ := Y2 _ _ (cin hc)
      refine ⟨c, oc, v, hc, List.mem_append_left _ (.tail _ h3), ?_, VR.map (fun _ _ => Stb.protect hP hsub) (fun _ _ e => e) _ _ h2⟩
      rw [h4, bindC_get (k := env.kindOf) (by rw [hk]; decide) rfl DI.nodup h1]
    · obtain ⟨oc, h3, h4⟩ := Y2 _ _ (cin hc)
      exact ⟨oc, _, List.mem_append_left _ (.tail _ h3), h4⟩
  have RM' : Room (A.deeper env) nd := ⟨RM.1, by have := RM.2.1; show A.depth + 1 + nd < recursionLimit; omega, by have := RM.2.2; show A.units + 3 + 20 * nd + 200 < cLine; omega⟩
  refine hb env _ V rfl (A.deeper env) ⟨h₁, s.gens, s.drawn, tk, s.os⟩ γ _ _ _ RM' D fun f h' tk' γ' led' D' e' hf => ?_
  have hRel : Rel C X γ' led' o' := D'.rel.weak
  have hown : ∀ a ∈ ownE env, a ∈ s.heap.objs.size :: cells.map (·.1) := fun a ha => by
    rcases List.mem_cons.mp ha with rfl | ha
    · exact .head _
    · obtain ⟨p, hp, rfl⟩ := List.mem_map.mp ha
      exact .tail _ (cadr (n := p.1) (c := p.2) hp)
  have hE : Ext [] γ led γ' led' := by
    obtain ⟨nw, h1, h2⟩ := e'.pre
    refine ⟨⟨nw, h1, fun a ha q => h2 a ha ?_⟩, fun p hp hg _ => e'.stay p (hsub p hp) hg fun q => hP _ (hown _ q) (mem_keys hp), fun a ha => e'.keys a ?_⟩
    · obtain ⟨p, hp, rfl⟩ := List.mem_map.mp q
      exact mem_keys (hsub p hp)
    · obtain ⟨p, hp, rfl⟩ := List.mem_map.mp ha
      exact mem_keys (hsub p hp)
  cases fl with
  | next =>
    simp only [FR] at hf
    subst hf
    exact hR .none h' tk' γ' led' D'.hold hRel hE (by simp only [VR])
  | ret v =>
    obtain ⟨w, rfl, hw⟩ := FR.weak hf
    exact hR w h' tk' γ' led' D'.hold hRel hE hw
end
end
section
theorem tc_weight {c : Addr} {vs : List Value} {kw : List (PySem.Str × Value)} : (Code.builtin "type.__call__" ⟨.ref c :: vs, kw⟩).weight = 1 := by
  have h : Code.isGuard (Code.builtin "type.__call__" ⟨.ref c :: vs, kw⟩) = false := by show guardIds.contains "type.__call__" = false; decide
  unfold Code.weight
  rw [h]
  rfl
theorem tc_units {c : Addr} {vs : List Value} {kw : List (PySem.Str × Value)} : (Code.builtin "type.__call__" ⟨.ref c :: vs, kw⟩).cUnits ≤ 10 := by
  have h : (Code.builtin "type.__call__" ⟨.ref c :: vs, kw⟩).frames = 0 := rfl
  unfold Code.cUnits
  simp only [h]
  decide
section
variable {C : Cfg} {nd : Nat}
theorem room_tc {A : Around} {c : Addr} {vs : List Value} {kw : List (PySem.Str × Value)} (R : Room A (nd + 1)) : Room (A.under (.builtin "type.__call__" ⟨.ref c :: vs, kw⟩)) nd :=
  ⟨R.1, by have := R.2.1; show A.depth + Code.weight _ + nd < recursionLimit; rw [tc_weight]; omega, by have := R.2.2; have h := @tc_units c vs kw; show A.units + Code.cUnits _ + 20 * nd + 200 < cLine; omega⟩
theorem cls_code {cls fI : Addr} {i : Nat} {args : List AV} {o o' : Objs} (K : C.Ok) (hc : C.cls i = cls) (hm : makesIn C.K cls = true) (hi : findIn C.K (.ref cls) "__init__" = some (some (.ref fI))) (hf : typeIn C.K (.ref fI) = some (.type "function"))
    (h : SCc C nd (.ref fI) (.ref (o.length + 1) :: args) (o ++ [.dict [] [] (some 0), .inst i o.length]) .none o') : SCc C (nd + 1) (.ref cls) args o (.ref (o.length + 1)) o' := by
  intro A s X γ led vs R RM hge H Rl hv hR
  obtain ⟨hh, g, d, t, os⟩ := s
  have hge : C.H.objs.size ≤ hh.objs.size := hge
  have KI := K.k.keeps H.keep
  refine make_core (makes_of KI hm) (looks_findIn KI hi) (fun self => bind_fn KI self hf) (.inl rfl) ?_
  have e0 : (emptyDict : Obj) = dictOf [] 0 := rfl
  rw [e0]
  have hz : (hh.push (dictOf [] 0)).objs.size = hh.objs.size + 1 := Heap.size_push ..
  have k1 : ∀ b y, hh.get? b = some y → (hh.push (dictOf [] 0)).get? b = some y := fun b y e => Heap.get?_push_of_some _ e
  have k2 : ∀ b y, (hh.push (dictOf [] 0)).get? b = some y → ((hh.push (dictOf [] 0)).push (instObj cls hh.objs.size)).get? b = some y := fun b y e => Heap.get?_push_of_some _ e
  have g1 : (hh.push (dictOf [] 0)).get? hh.objs.size = some (dictOf [] 0) := Heap.get?_push_size _ rfl
  have g2 : ((hh.push (dictOf [] 0)).push (instObj cls hh.objs.size)).get? (hh.objs.size + 1) = some (instObj cls hh.objs.size) := by
    have := Heap.get?_push_size (hh.push (dictOf [] 0)) (o := instObj cls hh.objs.size) rfl
    rw [hz] at this; exact this
  have n1 : hh.objs.size ∉ keys led := fun q => Nat.lt_irrefl _ (H.lt q)
  have n2 : hh.objs.size + 1 ∉ keys led := fun q => by have : hh.objs.size + 1 < hh.objs.size := H.lt q; omega
  have H1 := H.add k1 (Nat.le_refl _) g1 hge
  have H2 : Hold C ((hh.push (dictOf [] 0)).push (instObj cls hh.objs.size)) ((hh.objs.size + 1, instObj cls hh.objs.size) :: (hh.objs.size, dictOf [] 0) :: led) :=
    H1.add k2 (by rw [hz]; exact Nat.le_refl _) g2 (by rw [hz]; exact Nat.le_succ_of_le hge)
  have e : Ext [] γ led (γ ++ [hh.objs.size, hh.objs.size + 1]) ((hh.objs.size + 1, instObj cls hh.objs.size) :: (hh.objs.size, dictOf [] 0) :: led) := by
    refine ⟨⟨_, rfl, fun a ha => ?_⟩, fun p hp _ _ => .tail _ (.tail _ hp), fun a ha => .tail _ (.tail _ ha)⟩
    rcases List.mem_cons.mp ha with rfl | ha
    · exact n1
    · rw [List.mem_singleton.mp ha]; exact n2
  have dγ : hh.objs.size ∉ γ := fun q => n1 (Rl.gmem q)
  have xγ : hh.objs.size + 1 ∉ γ := fun q => n2 (Rl.gmem q)
  have l1 : (γ ++ [hh.objs.size, hh.objs.size + 1])[o.length]? = some hh.objs.size := by rw [← Rl.len]; simp
  have l2 : (γ ++ [hh.objs.size, hh.objs.size + 1])[o.length + 1]? = some (hh.objs.size + 1) := by rw [← Rl.len]; simp
  have R2 : Rel C X (γ ++ [hh.objs.size, hh.objs.size + 1]) ((hh.objs.size + 1, instObj cls hh.objs.size) :: (hh.objs.size, dictOf [] 0) :: led) (o ++ [.dict [] [] (some 0), .inst i o.length]) := by
    refine ⟨by simp [Rl.len], ?_, fun a ha q => ?_, fun a ha => .tail _ (.tail _ (Rl.inled a ha)), fun j ob a h1 h2 => ?_⟩
    · refine List.nodup_append.mpr ⟨Rl.nodup, by simp, fun x hx y hy => ?_⟩
      rcases List.mem_cons.mp hy with rfl | hy
      · exact fun q => dγ (q ▸ hx)
      · rw [List.mem_singleton.mp hy]; exact fun q => xγ (q ▸ hx)
    · rcases List.mem_append.mp ha with ha | ha
      · exact Rl.apart a ha q
      · rcases List.mem_cons.mp ha with rfl | ha
        · exact n1 (Rl.inled _ q)
        · rw [List.mem_singleton.mp ha] at q; exact n2 (Rl.inled _ q)
    · by_cases hj : j < o.length
      · rw [List.getElem?_append_left hj] at h1
        rw [List.getElem?_append_left (by rw [Rl.len]; exact hj)] at h2
        exact (Rl.has j ob a h1 h2).ext e (by simp) fun ob'' hm => .tail _ (.tail _ hm)
      · have hl1 := (List.getElem?_eq_some_iff.mp h1).1
        simp at hl1
        by_cases hj2 : j = o.length
        · subst hj2
          rw [l1] at h2
          cases h2
          simp at h1
          subst h1
          exact ⟨[], 0, [], .tail _ (.head _), fun m q => Option.some.inj q, ⟨rfl, rfl⟩, by simp, by simp only [VRs]⟩
        · have : j = o.length + 1 := by omega
          subst this
          rw [l2] at h2
          cases h2
          simp at h1
          subst h1
          exact ⟨hh.objs.size, l1, by rw [hc]; exact .head _⟩
  refine h _ ⟨_, g, d, t, os⟩ X _ _ (.ref (hh.objs.size + 1) :: vs) _ (room_tc RM) (Nat.le_trans hge (by show hh.objs.size ≤ _; rw [Heap.size_push, hz]; omega)) H2 R2 (VRs.cons (by simp only [VR]; exact ⟨_, l2, rfl⟩) (VRs.ext e (by simp) _ _ hv)) fun v h' tk γ' led' H' R' e' hv' => ?_
  simp only [VR] at hv'
  subst hv'
  refine ⟨rfl, hR _ h' tk γ' led' H' R' (e.trans e') ?_⟩
  simp only [VR]
  exact ⟨_, pre_get e' l2, rfl⟩
end
end
section
section
variable {C : Cfg} {nd : Nat} {X γ : List Addr} {led : Led} {o o' : Objs} {A : Around} {s : Shared} {E : Value → Shared → Prop}
theorem rel_tok {R : Rel C X γ led o} : True := trivial
theorem hold_alloc {h h' : Heap} {a : Addr} {ob : Obj} (H : Hold C h led) (R : Rel C X γ led o) (ne : Nz C led) (hk : ∀ b y, h.get? b = some y → h'.get? b = some y) (hn : h.objs.size ≤ a) (ha : h'.get? a = some ob) :
    Hold C h' ((a, ob) :: led) ∧ Rel C X γ ((a, ob) :: led) o ∧ Ext [] γ led γ ((a, ob) :: led) ∧ a ∉ γ ∧ a ∉ X ∧ a ∉ keys led := by
  have nk : a ∉ keys led := fun q => Nat.lt_irrefl _ (Nat.lt_of_lt_of_le (H.lt q) hn)
  exact ⟨H.add hk hn ha (hold_ge H ne), R.ext (own := []) (by simp) (fun p hp _ => .tail _ hp) (fun x hx => .tail _ hx), ⟨⟨[], by simp, by simp⟩, fun p hp _ _ => .tail _ hp, fun x hx => .tail _ hx⟩, fun q => nk (R.gmem q), fun q => nk (R.inled _ q), nk⟩
theorem hold_allocObj {h h' : Heap} {a : Addr} {ob : Obj} {ao : AObj} (H : Hold C h led) (R : Rel C X γ led o) (ne : Nz C led) (hk : ∀ b y, h.get? b = some y → h'.get? b = some y) (hn : h.objs.size ≤ a) (ha : h'.get? a = some ob)
    (hi : Ext [] γ led (γ ++ [a]) ((a, ob) :: led) → ObjIs C X (γ ++ [a]) ((a, ob) :: led) a ao) :
    Hold C h' ((a, ob) :: led) ∧ Rel C X (γ ++ [a]) ((a, ob) :: led) (o ++ [ao]) ∧ Ext [] γ led (γ ++ [a]) ((a, ob) :: led) ∧ (γ ++ [a])[o.length]? = some a := by
  obtain ⟨H1, R1, e1, n1, n2, n3⟩ := hold_alloc H R ne hk hn ha
  have e : Ext [] γ led (γ ++ [a]) ((a, ob) :: led) := ⟨⟨[a], rfl, by simpa using n3⟩, fun p hp _ _ => .tail _ hp, fun x hx => .tail _ hx⟩
  have hl : (γ ++ [a])[o.length]? = some a := by rw [← R.len]; simp
  refine ⟨H1, ⟨by simp [R.len], ?_, ?_, R1.inled, ?_⟩, e, hl⟩
  · exact List.nodup_append.mpr ⟨R.nodup, by simp, fun x hx y hy => by simp at hy; subst hy; exact fun q => n1 (q ▸ hx)⟩
  · intro x hx
    rcases List.mem_append.mp hx with hx | hx
    · exact R.apart x hx
    · simp at hx; subst hx; exact n2
  · intro i ob' b h1 h2
    by_cases hi' : i < o.length
    · rw [List.getElem?_append_left hi'] at h1
      rw [List.getElem?_append_left (by rw [R.len]; exact hi')] at h2
      exact (R.has i ob' b h1 h2).ext e (by simp) fun ob'' hm => .tail _ hm
    · have hl1 := (List.getElem?_eq_some_iff.mp h1).1
      simp at hl1
      have : i = o.length := by omega
      subst this
      rw [hl] at h2
      cases h2
      simp at h1
      subst h1
      exact hi e
theorem sc_len_str {l : Nm} (hl : l.length < 1000) : SC C nd (.builtin "len") [.str l] o (.int (.ofNat l.length)) o := by
  intro A s X γ led vs Q E R ne H Rl hv hQ
  simp only [VRs, VR] at hv
  obtain ⟨v, vs', rfl, ⟨t, rfl⟩, rfl⟩ := hv
  have e : (toS l).length = l.length := by simp [toS, Str.length]
  refine PyProof.Rows.len_str (by rw [e]; omega) ?_
  rw [e]
  exact hQ _ s.heap _ γ led H Rl .refl ⟨_, rfl⟩
theorem sc_len_fix {i : Nat} {xs : List AV} (ho : o[i]? = some (.fix xs)) (hl : xs.length < 1000) : SC C nd (.builtin "len") [.ref i] o (.int (.ofNat xs.length)) o := by
  intro A s X γ led vs Q E R ne H Rl hv hQ
  simp only [VRs, VR] at hv
  obtain ⟨v, vs', rfl, ⟨a, ha, rfl⟩, rfl⟩ := hv
  obtain ⟨us, ob, hm, hlo, hx⟩ := Rl.has _ _ _ ho ha
  have e := hx.length
  refine Calls.call_len_list ⟨_, H.at_ _ hm, hlo.1⟩ (by rw [List.size_toArray, e]; omega) ?_
  refine hQ _ s.heap _ γ led H Rl .refl ⟨s.toks + 1, ?_⟩
  rw [List.size_toArray, e]
  rfl
theorem sc_len_list {i : Nat} {xs : List AV} (ho : o[i]? = some (.list xs)) (hl : xs.length < 1000) : SC C nd (.builtin "len") [.ref i] o (.int (.ofNat xs.length)) o := by
  intro A s X γ led vs Q E R ne H Rl hv hQ
  simp only [VRs, VR] at hv
  obtain ⟨v, vs', rfl, ⟨a, ha, rfl⟩, rfl⟩ := hv
  obtain ⟨us, ob, hm, hlo, hx⟩ := Rl.has _ _ _ ho ha
  have e := hx.length
  refine Calls.call_len_list (list_at H hm hlo.1) (by rw [List.size_toArray, e]; omega) ?_
  refine hQ _ s.heap _ γ led H Rl .refl ⟨s.toks + 1, ?_⟩
  rw [List.size_toArray, e]
  rfl
theorem sc_tuple {i : Nat} {xs : List AV} (ho : o[i]? = some (.list xs)) (hl : xs.length < 1000) : SC C nd (.type "tuple") [.ref i] o (.tup xs) o := by
  intro A s X γ led vs Q E R ne H Rl hv hQ
  simp only [VRs, VR] at hv
  obtain ⟨v, vs', rfl, ⟨a, ha, rfl⟩, rfl⟩ := hv
  obtain ⟨us, ob, hm, hlo, hx⟩ := Rl.has _ _ _ ho ha
  have e := hx.length
  refine PySem.call_tuple_list (list_at H hm hlo.1) (fun h' hk => ?_) (by rw [List.size_toArray, e]; exact Nat.le_trans (Nat.le_of_lt hl) (by decide))
  obtain ⟨H1, R1, e1, n1, n2, n3⟩ := hold_alloc (h := h') (h' := h'.push (tupO us 0)) (a := h'.objs.size) (ob := tupO us 0) (H.grow hk) Rl ne (fun b y q => Heap.get?_push_of_some _ q) (Nat.le_refl _) (Heap.get?_push_size _ rfl)
  refine hQ _ _ s.toks γ _ H1 R1 e1 ?_
  simp only [VR]
  exact ⟨_, us, 0, rfl, .inr ⟨.head _, n1, n2⟩, VRs.ext e1 (by simp) _ _ hx⟩
theorem sc_int {i : Int} : SC C nd (.type "int") [.int i] o (.int i) o := by
  intro A s X γ led vs Q E R ne H Rl hv hQ
  simp only [VRs, VR] at hv
  obtain ⟨v, vs', rfl, ⟨t, rfl⟩, rfl⟩ := hv
  exact PySem.call_int_int (hQ _ s.heap s.toks γ led H Rl .refl ⟨_, rfl⟩)
theorem sc_bool {b : Bool} : SC C nd (.type "int") [.bool b] o (.int (b2i b)) o := by
  intro A s X γ led vs Q E R ne H Rl hv hQ
  simp only [VRs, VR] at hv
  obtain ⟨v, vs', rfl, rfl, rfl⟩ := hv
  refine PySem.call_int_bool (hQ _ s.heap _ γ led H Rl .refl ⟨s.toks, ?_⟩)
  cases b <;> rfl
theorem sc_max {i j : Int} : SC C nd (.builtin "max") [.int i, .int j] o (.int (max i j)) o := by
  intro A s X γ led vs Q E R ne H Rl hv hQ
  simp only [VRs, VR] at hv
  obtain ⟨v, vs', rfl, ⟨t, rfl⟩, w, vs2, rfl, ⟨u, rfl⟩, rfl⟩ := hv
  refine PySem.max_two_ints R.1 fun h' tk hk => hQ _ h' tk γ led (H.grow hk) Rl .refl ?_
  by_cases q : j > i
  · rw [if_pos q]; exact ⟨u, by rw [Int.max_eq_right (by omega)]⟩
  · rw [if_neg q]; exact ⟨t, by rw [Int.max_eq_left (by omega)]⟩
theorem sc_min {i j : Int} : SC C nd (.builtin "min") [.int i, .int j] o (.int (min i j)) o := by
  intro A s X γ led vs Q E R ne H Rl hv hQ
  simp only [VRs, VR] at hv
  obtain ⟨v, vs', rfl, ⟨t, rfl⟩, w, vs2, rfl, ⟨u, rfl⟩, rfl⟩ := hv
  refine PySem.min_two_ints R.1 fun h' tk hk => hQ _ h' tk γ led (H.grow hk) Rl .refl ?_
  by_cases q : j < i
  · rw [if_pos q]; exact ⟨u, by rw [Int.min_eq_right (by omega)]⟩
  · rw [if_neg q]; exact ⟨t, by rw [Int.min_eq_left (by omega)]⟩
end
end
section
theorem leN_lt : ∀ (a b : Nm), leN a b = !(PySem.Spec.ltCps b a)
  | [], [] => rfl
  | [], _ :: _ => rfl
  | _ :: _, [] => rfl
  | a :: r, b :: t => by
    have ih := leN_lt r t
    simp only [leN, PySem.Spec.ltCps]
    cases h1 : Nat.blt a b with
    | true =>
      have h := Nat.blt_eq.mp h1
      have e1 : ¬ b < a := by omega
      have e2 : ¬ b = a := by omega
      simp [e1, e2]
    | false =>
      have h : ¬ a < b := fun q => by rw [Nat.blt_eq.mpr q] at h1; cases h1
      cases h2 : Nat.beq a b with
      | true =>
        have e := Nat.eq_of_beq_eq_true h2
        subst e
        simp [ih]
      | false =>
        have e : a ≠ b := fun q => by subst q; rw [Nat.beq_refl] at h2; cases h2
        have e1 : b < a := by omega
        simp [e1]
theorem leN_total : ∀ (a b : Nm), leN a b = true ∨ leN b a = true
  | [], _ => .inl rfl
  | _ :: _, [] => .inr rfl
  | a :: r, b :: t => by
    have ih := leN_total r t
    simp only [leN]
    cases h1 : Nat.blt a b with
    | true => simp
    | false =>
      cases h2 : Nat.blt b a with
      | true => simp
      | false =>
        have e1 : ¬ a < b := fun q => by rw [Nat.blt_eq.mpr q] at h1; cases h1
        have e2 : ¬ b < a := fun q => by rw [Nat.blt_eq.mpr q] at h2; cases h2
        have e : a = b := by omega
        subst e
        simp [ih]
theorem leN_cons {a b : Nat} {r t : Nm} (h : leN (a :: r) (b :: t) = true) : a < b ∨ (a = b ∧ leN r t = true) := by
  simp only [leN] at h
  cases h1 : Nat.blt a b with
  | true => exact .inl (Nat.blt_eq.mp h1)
  | false =>
    rw [h1] at h
    cases h2 : Nat.beq a b with
    | true => rw [h2] at h; exact .inr ⟨Nat.eq_of_beq_eq_true h2, h⟩
    | false => rw [h2] at h; cases h
theorem leN_mk {a b : Nat} {r t : Nm} (h : a < b ∨ (a = b ∧ leN r t = true)) : leN (a :: r) (b :: t) = true := by
  simp only [leN]
  rcases h with h | ⟨rfl, h⟩
  · rw [Nat.blt_eq.mpr h]
  · have e : Nat.blt a a = false := by
      cases q : Nat.blt a a with
      | false => rfl
      | true => exact absurd (Nat.blt_eq.mp q) (Nat.lt_irrefl a)
    rw [e, Nat.beq_refl]
    exact h
theorem leN_anti : ∀ {a b : Nm}, leN a b = true → leN b a = true → a = b
  | [], [], _, _ => rfl
  | [], _ :: _, _, h => by simp [leN] at h
  | _ :: _, [], h, _ => by simp [leN] at h
  | a :: r, b :: t, h, k => by
    rcases leN_cons h with h1 | ⟨e1, h2⟩ <;> rcases leN_cons k with k1 | ⟨e2, k2⟩
    · omega
    · omega
    · omega
    · rw [leN_anti h2 k2, e1]
theorem leN_trans : ∀ {a b c : Nm}, leN a b = true → leN b c = true → leN a c = true
  | [], _, _, _, _ => rfl
  | _ :: _, [], _, h, _ => by simp [leN] at h
  | _ :: _, _ :: _, [], _, h => by simp [leN] at h
  | a :: r, b :: t, c :: u, h, k => by
    refine leN_mk ?_
    rcases leN_cons h with h1 | ⟨e1, h2⟩ <;> rcases leN_cons k with k1 | ⟨e2, k2⟩
    · exact .inl (by omega)
    · exact .inl (by omega)
    · exact .inl (by omega)
    · exact .inr ⟨e1.trans e2, leN_trans h2 k2⟩
theorem insN_perm {x : Nm} : ∀ {l : List Nm}, (insN x l).Perm (x :: l)
  | [] => .refl _
  | y :: r => by
    unfold insN
    cases leN x y with
    | true => exact .refl _
    | false => exact ((insN_perm (l := r)).cons y).trans (.swap x y r)
theorem sortN_perm : ∀ {l : List Nm}, (sortN l).Perm l
  | [] => .refl _
  | x :: r => insN_perm.trans (sortN_perm.cons x)
theorem insN_pw {x : Nm} : ∀ {l : List Nm}, l.Pairwise (fun a b => leN a b = true) → (insN x l).Pairwise fun a b => leN a b = true
  | [], _ => by simp [insN]
  | y :: r, h => by
    obtain ⟨h1, h2⟩ := List.pairwise_cons.mp h
    unfold insN
    cases q : leN x y with
    | true =>
      refine List.pairwise_cons.mpr ⟨fun z hz => ?_, h⟩
      rcases List.mem_cons.mp hz with rfl | hz
      · exact q
      · exact leN_trans q (h1 z hz)
    | false =>
      refine List.pairwise_cons.mpr ⟨fun z hz => ?_, insN_pw h2⟩
      rcases List.mem_cons.mp ((insN_perm (l := r)).mem_iff.mp hz) with rfl | hz
      · exact (leN_total z y).resolve_left (by rw [q]; simp)
      · exact h1 z hz
theorem sortN_pw : ∀ {l : List Nm}, (sortN l).Pairwise fun a b => leN a b = true
  | [] => .nil
  | x :: r => insN_pw sortN_pw
theorem rising_pw : ∀ {l : List PySem.Str} {p : PySem.Str}, risingS p l = true → (p :: l).Pairwise fun a b => leN a.cps.toList b.cps.toList = true
  | [], p, _ => by simp
  | x :: r, p, h => by
    have h' : (!PySem.Spec.ltCps x.cps.toList p.cps.toList && risingS x r) = true := h
    rw [Bool.and_eq_true] at h'
    have ih := rising_pw h'.2
    have h1 : leN p.cps.toList x.cps.toList = true := by rw [leN_lt]; exact h'.1
    refine List.pairwise_cons.mpr ⟨fun z hz => ?_, ih⟩
    rcases List.mem_cons.mp hz with rfl | hz
    · exact h1
    · exact leN_trans h1 ((List.pairwise_cons.mp ih).1 z hz)
theorem sorted_pw {l : List PySem.Str} (h : sortedS l = true) : l.Pairwise fun a b => leN a.cps.toList b.cps.toList = true := by
  cases l with
  | nil => exact .nil
  | cons x r => exact rising_pw h
theorem sorted_eq {ks : List Nm} {ss : List PySem.Str} (hp : ss.Perm (ks.map toS)) (hs : sortedS ss = true) : ss = (sortN ks).map toS := by
  have p1 : (ss.map fun s => s.cps.toList).Perm ks := by
    have := hp.map fun s => s.cps.toList
    rw [List.map_map] at this
    have e : ks.map ((fun s : PySem.Str => s.cps.toList) ∘ toS) = ks := by
      have e2 : ((fun s : PySem.Str => s.cps.toList) ∘ toS) = id := by funext k; simp [toS]
      rw [e2, List.map_id]
    rw [e] at this
    exact this
  have p2 : (ss.map fun s => s.cps.toList).Pairwise fun a b => leN a b = true := List.pairwise_map.mpr (sorted_pw hs)
  have e := List.Perm.eq_of_pairwise (fun a b _ _ h k => leN_anti h k) p2 (sortN_pw (l := ks)) (p1.trans sortN_perm.symm)
  rw [← e, List.map_map]
  have e2 : (toS ∘ fun s : PySem.Str => s.cps.toList) = id := by funext s; cases s; simp [toS]
  rw [e2, List.map_id]
theorem strsAre_of {C : Cfg} {X γ : List Addr} {led : Led} : ∀ {ks : List Nm} {vs : List Value}, StrsAre vs (ks.map toS) → VRs C X γ led (mapA ks) vs
  | [], vs, h => by cases h; simp [mapA, VRs]
  | k :: ks, vs, h => by
    cases h with
    | cons x t h =>
      simp only [mapA, List.map_cons, VRs, VR]
      exact ⟨_, _, rfl, ⟨t, rfl⟩, strsAre_of h⟩
theorem strsAre_mk : ∀ {ks : List Nm} {vs : List Value}, vs.length = ks.length → (∀ (j : Nat) (v : Value), vs[j]? = some v → ∃ k t, ks[j]? = some k ∧ v = .str (toS k) t) → StrsAre vs (ks.map toS)
  | [], [], _, _ => .nil
  | k :: ks, v :: vs, hl, h => by
    obtain ⟨k', t, h1, rfl⟩ := h 0 v rfl
    cases h1
    exact .cons _ t (strsAre_mk (by simpa using hl) fun j v hj => h (j + 1) v hj)
  | [], _ :: _, h, _ => by simp at h
  | _ :: _, [], h, _ => by simp at h
section
variable {C : Cfg} {nd : Nat} {o : Objs}
theorem sc_sorted {i : Nat} {ks : List Nm} {xs : List AV} {ep : Option Nat} (K : C.Ok) (ho : o[i]? = some (.dict ks xs ep)) (hl : ks.length < 64) : SC C nd (.builtin "sorted") [.ref i] o (.ref o.length) (o ++ [.list (mapA (sortN ks))]) := by
  intro A s X γ led vs Q E R ne H Rl hv hQ
  simp only [VRs, VR] at hv
  obtain ⟨v, vs', rfl, ⟨a, ha, rfl⟩, rfl⟩ := hv
  obtain ⟨es, m, us, hm, _, he, hn, hx⟩ := Rl.has _ _ _ ho ha
  have hd := he.dictAt (prog := C.prog) hn (H.at_ _ hm)
  have hkv : (kvs ks us).length = ks.length := by unfold kvs; simp [he.length]
  have hsys : (a == sysModules) = false := by
    cases q : a == sysModules with
    | false => rfl
    | true =>
      have e : a = sysModules := eq_of_beq q
      subst e
      have h2 := K.big
      have : C.H.objs.size ≤ 1 := H.up hm dict_noseq
      omega
  refine Calls.call_function_entry PyProof.Rows.kind_sorted PyProof.Rows.plain_sorted PyProof.Rows.entry_sorted (PyProof.Rows.args_sorted1 _) ?_
  unfold Builtin.«sorted»
  refine wpAny_bind (m := PySem.checkCount "sorted" 1 1 _) (wpAny_pure ?_)
  refine wpAny_bind (kdu_collect (A := A.in1) (kdl_dict (knd := strKind C.prog C.w) (kvs := kvs ks us) (ep := m) hsys) R.1 hd (by rw [hkv]; exact Nat.le_trans (Nat.le_of_lt hl) (by decide)) fun h' tk acc hk hacc => ?_)
  have hal : acc.toList.length = ks.length := by rw [Array.length_toList, hacc.1, hkv]
  refine wpAny_bind (wpAny_newList ?_ (by rw [hal]; exact Nat.le_trans (Nat.le_of_lt hl) (by decide)))
  have hS : StrsAre acc.toList (ks.map toS) := strsAre_mk hal fun j v hj => by
    obtain ⟨k, x, h1, h2⟩ := hacc.2 j v (by rw [← Array.getElem?_toList]; exact hj)
    unfold kvs at h1
    rw [List.getElem?_zip_eq_some] at h1
    obtain ⟨h3, h4⟩ := h1
    rw [List.getElem?_map] at h3
    obtain ⟨nm, h5, rfl⟩ := Option.map_eq_some_iff.mp h3
    change Value.isStrOf (toS nm) v = true at h2
    cases v <;> simp [Value.isStrOf] at h2
    exact ⟨nm, _, h5, by rw [h2]⟩
  have H' : Hold C h' led := H.grow hk
  have hD : (h'.push (seqObj "list" acc.toList.toArray 0)).get? h'.objs.size = some (seqObj "list" acc.toList.toArray 0) := Heap.get?_push_size _ rfl
  refine wpAny_bind (wpAny_holding (wpAny_call_entry PyProof.Rows.slot_list_sort ⟨_, hD, rfl⟩ PyProof.Rows.entry_list_sort (list_sort_treeK (n := 0) (vs := acc.toList) strKind_oneLt hD hS.keysOf (fun v₁ v₂ rest e => keyKind_strs (by rw [← e]; exact hS)) (by rw [hal]; exact hl) fun st' hp hs => ⟨.none, rfl, ?_⟩) (PyProof.Rows.args_list_sort _)))
  obtain ⟨ss', h1, h2, h3⟩ := sorted_out_str hS hp hs
  have e := sorted_eq h2 h3
  subst e
  obtain ⟨e1, hg⟩ := sortedHeap_at (vs := acc.toList) (out := (arrOf st').map (·.2)) hD
  have old : ∀ b y, h'.get? b = some y → (sortedHeap (h'.push (seqObj "list" acc.toList.toArray 0)) h'.objs.size acc.toList ((arrOf st').map (·.2))).get? b = some y := fun b y q => by
    have hlt := Heap.lt_size q
    rw [sortedHeap_old (Nat.ne_of_lt hlt) (by rw [Heap.size_push]; exact Nat.lt_succ_of_lt hlt)]
    exact Heap.get?_push_of_some _ q
  have ob : ∀ q : Array Value, seqObj "list" q e1 = listO q.toList e1 := fun q => by simp
  rw [ob] at hg
  obtain ⟨H1, R1, e2, hl2⟩ := hold_allocObj (ao := .list (mapA (sortN ks))) H' Rl ne old (Nat.le_refl _) hg fun e => ⟨_, _, .head _, ⟨⟨e1, rfl⟩, hold_ge H' ne⟩, strsAre_of h1⟩
  refine wpAny_pure ⟨_, rfl, hQ _ _ tk _ _ H1 R1 e2 ?_⟩
  simp only [VR]
  exact ⟨_, hl2, rfl⟩
end
end
section
theorem lk_list_keys : typeLookup (.type "list") "keys" = pure none := by rw [typeLookup_type, builtinLookup_eq_fast]; kernel_rfl
theorem entry_dul : entryFor table "dict.update.loop" = some Builtin.«dict.update.loop» := entryFor_of_tree (by kernel_rfl)
theorem plain_dul : plainId "dict.update.loop" = true := by decide +kernel
theorem no_keys {prog : Program} {w : World} {A : Around} {E : Value → Shared → Prop} {s : Shared} {a : Addr} {vs : List Value} {n : Nat} {Q : Option Value → Shared → Prop}
    (hx : s.heap.get? a = some (listO vs n)) (hA : A.handled = none) (h : ∀ h' tk, (∀ b y, s.heap.get? b = some y → h'.get? b = some y) → Q none { s with heap := h', toks := tk }) :
    wpAny (model prog w) A (getAttr? (.ref a) "keys") Q E s := by
  obtain ⟨hp, g, d, tk, os⟩ := s
  have hT : ∀ tk', (⟨hp, g, d, tk', os⟩ : Shared).TypeIs (.ref a) "list" := fun _ => ⟨_, hx, rfl⟩
  have f1 := sub_AttributeError
  have f3 := PySem.F.slot_list_getattribute.lookup
  have f4 := PySem.F.slot_list_getattribute.bind (.ref a)
  have f5 := am_list_getattr_none
  unfold getAttr? getAttrBy? getAttrBy
  repeat (any_goals (first | assumption | exact hT _ | ((with_reducible show wpAny _ _ (call (Value.builtin "list.__getattribute__") _ _) _ _ _); refine call_meets PySem.F.slot_list_getattribute (hT _) am_entry_list_getattribute (PySem.F.args_list_getattribute_2 _ _) (meets_getattribute_miss_list a vs.toArray n #[] "keys" _ lk_list_keys (by decide) (by decide)) ⟨hx, hA, fun h' tk' e hx' => ?_⟩) | wp_step))
  obtain ⟨t', u', he⟩ := hx'.there
  show wpAny _ _ (getattributeRaised _ _ _ _ _ _ _) _ _ _
  unfold getattributeRaised
  repeat (any_goals (first | assumption | wp_step))
  exact h _ _ hx'.keeps
noncomputable def Prs (h0 : Heap) : List Value → List Nm → List Value → Prop
  | [], ks, vs => ks = [] ∧ vs = []
  | u :: us, ks, vs => ∃ t k ks' tok v vs' n, u = .ref t ∧ ks = k :: ks' ∧ vs = v :: vs' ∧ h0.get? t = some (tupO [.str (toS k) tok, v] n) ∧ Prs h0 us ks' vs'
section
variable {C : Cfg} {nd : Nat} {A : Around} {E : Value → Shared → Prop}
theorem dul {h0 : Heap} {a d it : Addr} {all : List Value} {ln : Nat} {R : Result → Shared → Prop} (hA : A.handled = none) (hl : h0.get? a = some (listO all ln)) (hne : d ≠ it) (hd0 : h0.objs.size ≤ d) (hi0 : h0.objs.size ≤ it) :
    ∀ {us : List Value} {i : Nat} {ks ks0 : List Nm} {vs vs0 : List Value} {es : List DictEntry} {m : Nat} {s : Shared} {j : Int}, all.drop i = us → Prs h0 us ks vs → (ks0 ++ ks).Nodup → (ks0 ++ ks).length ≤ 900 →
    (∀ b y, h0.get? b = some y → s.heap.get? b = some y) → s.heap.IsListIter it a i → s.heap.get? d = some (dictOf es m) → Ents C.w es ks0 vs0 →
    (∀ h' tk es' m', (∀ b y, h0.get? b = some y → h'.get? b = some y) → h'.get? d = some (dictOf es' m') → Ents C.w es' (ks0 ++ ks) (vs0 ++ vs) → R (.ok (.ret .none)) { s with heap := h', toks := tk }) →
    codeAny (model C.prog C.w) A (.builtin "dict.update.loop" ⟨[.ref d, .ref it, .int j 0, .none], []⟩) R s
  | [], i, ks, ks0, vs, vs0, es, m, s, j, hdr, hp, hnd, hz, hk, hit, hd, he, hR => by
    refine codeAny_builtin entry_dul ?_
    rw [Around.under_plainId plain_dul _]
    have hL : s.heap.IsList a all.toArray := ⟨_, hk _ _ hl, rfl, ln, rfl⟩
    show wpAny _ A.in1 (pyNext (.ref it) >>= _) _ _ s
    obtain ⟨rfl, rfl⟩ := hp
    have hge : all.length ≤ i := List.drop_eq_nil_iff.mp hdr
    refine wpAny_bind (wpAny_pyNext_list_end hA hit hL (by simp; exact hge) fun h' he' => ?_)
    show wpAny _ _ (Builtin.Dict.addKeywords d [] >>= _) _ _ _
    refine wpAny_bind (wpAny_pure (wpAny_pure ?_))
    refine hR h' s.toks es m (fun b y e => he' b y (fun q => ?_) (hk b y e)) (he' d _ hne hd) (by simpa using he)
    exact Nat.lt_irrefl _ (Nat.lt_of_lt_of_le (Heap.lt_size e) (q ▸ hi0))
  | u :: us, i, ks, ks0, vs, vs0, es, m, s, j, hdr, hp, hnd, hz, hk, hit, hd, he, hR => by
    refine codeAny_builtin entry_dul ?_
    rw [Around.under_plainId plain_dul _]
    have hL : s.heap.IsList a all.toArray := ⟨_, hk _ _ hl, rfl, ln, rfl⟩
    show wpAny _ A.in1 (pyNext (.ref it) >>= _) _ _ s
    obtain ⟨t, k, ks', tok, v, vs', n, rfl, rfl, rfl, ht, hp'⟩ := hp
    have hi : i < all.length := by
      apply Classical.byContradiction
      intro q
      rw [List.drop_eq_nil_iff.mpr (by omega)] at hdr
      cases hdr
    have hx : all[i]? = some (.ref t) := by
      have := congrArg (fun l => l[0]?) hdr
      simpa using this
    have hdr' : all.drop (i + 1) = us := by
      have := congrArg List.tail hdr
      simpa using this
    refine wpAny_bind (wpAny_pyNext_list_item hit hL (x := .ref t) (by simpa using hx) fun h1 hit1 hs1 => ?_)
    have old1 : ∀ b y, h0.get? b = some y → h1.get? b = some y := fun b y e => (hs1.2 b fun q => Nat.lt_irrefl _ (Nat.lt_of_lt_of_le (Heap.lt_size e) (q ▸ hi0))).trans (hk b y e)
    have ht1 := old1 _ _ ht
    have hd1 : h1.get? d = some (dictOf es m) := (hs1.2 d hne).trans hd
    refine wpAny_bind (wpAny_holding (wpAny_bind ?_))
    refine wpAny_tryCatch ?_
    show wpAny _ _ (typeOf (.ref t) >>= _) _ _ _
    refine wpAny_bind (wpAny_typeOf (T := "tuple") ⟨_, ht1, rfl⟩ ?_)
    rw [if_pos (by decide)]
    refine wpAny_bind (wpAny_seqItems ht1 rfl (wpAny_pure ?_))
    show wpAny _ _ (holding [.str (toS k) tok, v] (dictSet d (.str (toS k) tok) v)) _ _ _
    have hz0 : es.length ≤ 1000 := by rw [he.length.1]; simp at hz; omega
    refine wpAny_holding (dictSet_exact (s := { s with heap := h1 }) hd1 he hz0 fun h2 g2 k2 => ?_)
    have hk0 : dhas ks0 k = false := by
      cases q : dhas ks0 k with
      | false => rfl
      | true => exact absurd rfl ((List.nodup_append.mp hnd).2.2 k (dhas_iff.mp q) k (.head _))
    have hen := (ents_put (n := k) (t := tok) (v := v) he).2 hk0
    have eq1 : ks0 ++ k :: ks' = (ks0 ++ [k]) ++ ks' := by simp
    have eq2 : vs0 ++ v :: vs' = (vs0 ++ [v]) ++ vs' := by simp
    rw [eq1] at hnd hz
    refine wpAny_pure ⟨plainId_quiet plain_dul _, ?_⟩
    refine dul hA hl hne hd0 hi0 (s := ⟨h2, s.gens, s.drawn, s.toks + 1, s.os⟩) hdr' hp' hnd hz (fun b y e => k2 b y (fun q => Nat.lt_irrefl _ (Nat.lt_of_lt_of_le (Heap.lt_size e) (q ▸ hd0))) (old1 b y e)) (hit1.at fun ob e => k2 it ob (Ne.symm hne) e) g2 hen fun h' tk es' m' a1 a2 a3 => ?_
    rw [← eq1, ← eq2] at a3
    exact hR h' tk es' m' a1 a2 a3
theorem pairV_ok {a v : AV} {k : Nm} (h : pairV a = some (k, v)) : a = .tup [.str k, v] := by
  refine oa h fun xs hx hz => ?_
  cases jTup_ok hx
  clear hx h
  match xs, hz with
  | [], h => exact nsM h
  | [_], h => exact nsM h
  | [_, _], h => exact oa h fun n hn h => by cases jStr_ok hn; cases h; rfl
  | _ :: _ :: _ :: _, h => exact nsM h
theorem prs_of {X γ : List Addr} {led : Led} {h : Heap} (K : C.Ok) (H : Hold C h led) : ∀ {xs : List AV} {us : List Value} {ks : List Nm} {ys : List AV}, pairsA xs = some (ks, ys) → VRs C X γ led xs us → ∃ vs, Prs h us ks vs ∧ VRs C X γ led ys vs
  | [], us, ks, ys, e, hv => by
    cases e
    cases hv
    exact ⟨[], ⟨rfl, rfl⟩, rfl⟩
  | x :: r, us, ks, ys, e, hv => by
    refine ob e fun k v hp e => ob e fun ks' xs' hr e => ou e fun hh e1 => ?_
    cases pairV_ok hp
    cases e1
    obtain ⟨w, us', rfl, ⟨t, ws, n, rfl, hs, w1, ws1, rfl, ⟨tok, rfl⟩, w2, ws2, rfl, hw2, rfl⟩, hus⟩ := hv
    obtain ⟨vs, h1, h2⟩ := prs_of K H hr hus
    exact ⟨w2 :: vs, ⟨t, k, ks', tok, w2, vs, n, rfl, rfl, rfl, hs.get K H, h1⟩, VRs.cons hw2 h2⟩
theorem pairsA_nodup : ∀ {xs : List AV} {ks : List Nm} {ys : List AV}, pairsA xs = some (ks, ys) → ks.Nodup ∧ ks.length = xs.length
  | [], ks, ys, e => by cases e; exact ⟨List.nodup_nil, rfl⟩
  | x :: r, ks, ys, e => by
    refine ob e fun k v hp e => ob e fun ks' xs' hr e => ou e fun hh e1 => ?_
    obtain ⟨h1, h2⟩ := pairsA_nodup hr
    cases e1
    refine ⟨List.nodup_cons.mpr ⟨fun q => ?_, h1⟩, congrArg Nat.succ h2⟩
    rw [hasN_iff.mpr q] at hh
    cases hh
theorem sc_dict {o : Objs} {i : Nat} {xs ys : List AV} {ks : List Nm} (K : C.Ok) (ho : o[i]? = some (.list xs)) (hp : pairsA xs = some (ks, ys)) (hl : xs.length < 800) : SC C nd (.type "dict") [.ref i] o (.ref o.length) (o ++ [.dict ks ys none]) := by
  intro A s X γ led vs Q E R ne H Rl hv hQ
  simp only [VRs, VR] at hv
  obtain ⟨v, vs', rfl, ⟨a, ha, rfl⟩, rfl⟩ := hv
  obtain ⟨us, ob, hm, ⟨⟨ln, rfl⟩, _⟩, hx⟩ := Rl.has _ _ _ ho ha
  have g := H.at_ _ hm
  obtain ⟨ws, hP, hY⟩ := prs_of K H hp hx
  obtain ⟨hnd, hlen⟩ := pairsA_nodup hp
  refine callType_codes (Q₁ := fun obj s₁ => obj = .ref s.heap.objs.size ∧ s₁ = { s with heap := s.heap.push { cls := .type "dict", data := .dict #[] } }) PySem.F.kt_called_dict (PySem.F.kt_typeCall_dict_1 _) PySem.F.entry_dict_init (kt_code_dict_new _ ⟨rfl, rfl⟩) ?_
  rintro obj s₁ ⟨rfl, rfl⟩
  have e0 : ({ cls := .type "dict", data := .dict #[] } : Obj) = dictOf [] 0 := rfl
  rw [e0]
  have gd : (s.heap.push (dictOf [] 0)).get? s.heap.objs.size = some (dictOf [] 0) := Heap.get?_push_size _ rfl
  have gl : (s.heap.push (dictOf [] 0)).get? a = some (listO us ln) := Heap.get?_push_of_some _ g
  have hTd : (⟨s.heap.push (dictOf [] 0), s.gens, s.drawn, s.toks, s.os⟩ : Shared).TypeIs (.ref s.heap.objs.size) "dict" := ⟨_, gd, rfl⟩
  refine ⟨hTd, PySem.F.args_dict_init_2 _ _, ?_⟩
  unfold Builtin.«dict.__init__»
  refine wpAny_bind ?_
  unfold Builtin.Dict.selfAndRest
  refine wpAny_bind (wpAny_notOrdered_dict hTd ?_)
  show wpAny _ _ (pure (s.heap.objs.size, [Value.ref a])) _ _ _
  refine wpAny_pure ?_
  show wpAny _ _ (Builtin.Dict.updateFrom "dict.__init__" s.heap.objs.size (.ref a) [] .none) _ _ _
  unfold Builtin.Dict.updateFrom
  refine wpAny_bind (wpAny_typeOf (T := "list") ⟨_, gl, rfl⟩ ?_)
  rw [if_pos (by decide)]
  refine wpAny_bind (no_keys (A := A.in1.in1) (s := ⟨s.heap.push (dictOf [] 0), s.gens, s.drawn, s.toks, s.os⟩) gl R.1 fun h1 tk1 k1 => ?_)
  simp only [Option.isNone_none, if_true]
  refine wpAny_bind (wpAny_rule ?_)
  have gl1 := k1 _ _ gl
  have gd1 := k1 _ _ gd
  refine wpAny_bind (PySem.wpAny_pyIter_list (s := ⟨h1, s.gens, s.drawn, tk1, s.os⟩) (items := us.toArray) ⟨_, gl1, rfl, ln, rfl⟩ ?_)
  have old : ∀ b y, s.heap.get? b = some y → (h1.push { cls := .type "list_iterator", data := .fields #[.ref a, .int 0 0] }).get? b = some y := fun b y e => Heap.get?_push_of_some _ (k1 b y (Heap.get?_push_of_some _ e))
  have hlt := Heap.lt_size gd1
  refine wpAny_pure ⟨plainId_quiet plain_dul _, ?_⟩
  have fin := dul (C := C) (A := A.in1) (h0 := s.heap) (a := a) (d := s.heap.objs.size) (it := h1.objs.size) (all := us) (ln := ln)
    (R := wants (fun r s₂ => r = .none ∧ Q (.ref s.heap.objs.size) s₂) E) R.1 g (Nat.ne_of_lt hlt) (Nat.le_refl _) (Nat.le_of_lt hlt)
    (us := us) (i := 0) (ks := ks) (ks0 := []) (vs := ws) (vs0 := []) (es := []) (m := 0) (s := ⟨h1.push { cls := .type "list_iterator", data := .fields #[.ref a, .int 0 0] }, s.gens, s.drawn, tk1, s.os⟩) (j := 0)
    rfl hP (by simpa using hnd) (by simp; omega) old ⟨_, Heap.get?_push_size _ rfl, rfl, rfl⟩ (Heap.get?_push_of_some _ gd1) ⟨rfl, rfl⟩ fun h' tk es' m' a1 a2 a3 => ?_
  · exact fin
  · simp only [List.nil_append] at a3
    obtain ⟨H1, R1, e1, hl1⟩ := hold_allocObj (ao := .dict ks ys none) H Rl ne a1 (Nat.le_refl _) a2 fun e => ⟨es', m', ws, .head _, fun x q => (nomatch q), a3, hnd, VRs.ext e (by simp) _ _ hY⟩
    exact ⟨rfl, hQ _ h' tk _ _ H1 R1 e1 (by simp only [VR]; exact ⟨_, hl1, rfl⟩)⟩
end
end
section
structure BiOk (C : Cfg) : Prop where
  g50 : C.gval 50 = .builtin "len"
  g51 : C.gval 51 = .builtin "sorted"
  g52 : C.gval 52 = .type "dict"
  g53 : C.gval 53 = .type "tuple"
  g54 : C.gval 54 = .type "int"
  g55 : C.gval 55 = .builtin "max"
  g56 : C.gval 56 = .builtin "min"
  g57 : C.gval 57 = .type "enumerate"
  g58 : C.gval 58 = .type "range"
noncomputable def BK (C : Cfg) (nd i : Nat) (as : List AV) (o : Objs) (r : AV) (o' : Objs) : Prop := SC C nd (C.gval i) as o r o' ∧ KeepsF C (C.gval i)
section
variable {C : Cfg} {nd i : Nat} {as : List AV} {o o' : Objs} {r : AV}
theorem bk_b {k : Nat} {f : String} (q : Nat.beq i k = true) (g : C.gval k = .builtin f) (h : SC C nd (.builtin f) as o r o') : BK C nd i as o r o' := by
  cases Nat.eq_of_beq_eq_true q
  exact ⟨by rw [g]; exact h, by rw [g]; exact keeps_builtin⟩
theorem bk_t {k : Nat} {f : String} (q : Nat.beq i k = true) (g : C.gval k = .type f) (h : SC C nd (.type f) as o r o') : BK C nd i as o r o' := by
  cases Nat.eq_of_beq_eq_true q
  exact ⟨by rw [g]; exact h, by rw [g]; exact keeps_type⟩
theorem len_ok {a : AV} {n : Nat} (h : lenA o a = some n) (hl : n < 1000) : SC C nd (.builtin "len") [a] o (.int (.ofNat n)) o := by
  refine oe h (fun l hl' hz => ?_) fun h => oa h fun j hj h => oa h fun oc ho h => oe h (fun xs hx hz => ?_) fun h => oa h fun xs hx hz => ?_
  · cases jStr_ok hl'; cases hz; exact sc_len_str hl
  · cases jRef_ok hj; cases jLst_ok hx; cases hz; exact sc_len_list ho hl
  · cases jRef_ok hj; cases jFix_ok hx; cases hz; exact sc_len_fix ho hl
theorem bi3_ok (K : C.Ok) (B : BiOk C) {j : Nat} {oc : AObj} (ho : o[j]? = some oc) (h : bi3 i o oc = some (r, o')) : BK C nd i [.ref j] o r o' := by
  refine om h (fun q h => oa h fun p hp h => oi h fun hl hz => ?_) fun _ h => oa h fun xs hx h => ?_
  · cases jDct_ok (xs := p.2.1) (ep := p.2.2) hp
    cases hz
    exact bk_b q B.g51 (sc_sorted K ho hl)
  · cases jLst_ok hx
    refine om ‹omM _ _ _ = _› (fun q h => ob h fun ks ys hp h => oi h fun hl hz => ?_) fun _ h => ot h fun q h => oi h fun hl hz => ?_
    · cases hz
      exact bk_t q B.g52 (sc_dict K ho hp hl)
    · cases hz
      exact bk_t q B.g53 (sc_tuple ho hl)
theorem bi1_ok (K : C.Ok) (B : BiOk C) {a : AV} (h : bi1 i o a = some (r, o')) : BK C nd i [a] o r o' := by
  refine om h (fun q h => oa h fun n hn h => oi h fun hl hz => ?_) fun _ h => om h (fun q h => oe h (fun z hz h => ?_) fun h => oa h fun b hb h => ?_) fun _ h => oa h fun j hj h => oa h fun oc ho h3 => ?_
  · cases hz
    exact bk_b q B.g50 (len_ok hn hl)
  · cases jInt_ok hz
    exact oq h (bk_t q B.g54 sc_int)
  · cases jBool_ok hb
    exact oq h (bk_t q B.g54 sc_bool)
  · cases jRef_ok hj
    exact bi3_ok K B ho h3
theorem bi_ok (K : C.Ok) (B : BiOk C) (h : bi i as o = some (r, o')) : SC C nd (C.gval i) as o r o' ∧ KeepsF C (C.gval i) := by
  show BK C nd i as o r o'
  delta bi at h
  match as, h with
  | [], h => exact nsM h
  | [a], h => exact bi1_ok K B h
  | [a, b], h =>
    refine oa h fun x hx h => oa h fun y hy hz => ?_
    cases jInt_ok hx
    cases jInt_ok hy
    exact om hz (fun q h => oq h (bk_b q B.g55 sc_max)) fun _ h => ot h fun q h => oq h (bk_b q B.g56 sc_min)
  | _ :: _ :: _ :: _, h => exact nsM h
end
end
section
noncomputable abbrev KD := PySem.Str → Option NameKind
noncomputable def sEq (s : PySem.Str) (x : Nm) : Bool := eqN s.cps.toList x
theorem sEq_ok {s : PySem.Str} {x : Nm} (h : sEq s x = true) : s = toS x := by
  have := eqN_iff.mp h
  subst this
  cases s
  simp [toS]
noncomputable def okK : Option NameKind → Bool
  | some .local => true
  | some .cell => true
  | _ => false
theorem okK_ok {k : Option NameKind} (h : okK k = true) : k = some .local ∨ k = some .cell := by
  cases k with
  | none => cases h
  | some k => cases k <;> simp [okK] at h <;> simp
noncomputable def isLoc : Option NameKind → Bool
  | some .local => true
  | _ => false
theorem isLoc_ok {k : Option NameKind} (h : isLoc k = true) : k = some .local := by
  cases k with
  | none => cases h
  | some k => cases k <;> simp [isLoc] at h <;> simp
noncomputable def isGlob : Option NameKind → Bool
  | some .globalImplicit => true
  | _ => false
theorem isGlob_ok {k : Option NameKind} (h : isGlob k = true) : k = some .globalImplicit := by
  cases k with
  | none => cases h
  | some k => cases k <;> simp [isGlob] at h <;> simp
noncomputable def n_debug : Nm := [95, 95, 100, 101, 98, 117, 103, 95, 95]
theorem debug_eq : toS n_debug = ("__debug__" : PySem.Str) := by decide +kernel
theorem debug_no {x : Nm} (h : eqN x n_debug = false) : (toS x == ("__debug__" : PySem.Str)) = false := by
  rw [← debug_eq, beq_toS]; exact h
noncomputable def constB : AV → Const → Bool
  | .none, .none => true
  | .bool b, .bool c => b == c
  | .int i, .int j => decide (i = j)
  | .str l, .str s => sEq s l
  | _, _ => false
theorem nsO {α : Type} {a : α} {p : Prop} (h : none = some a) : p := nomatch h
noncomputable def vEConstant (e : PySem.Expr) (k : Const → Nat → Pos → Bool) : Bool := @PySem.Expr.casesOn (fun _ => Bool) e (fun _ _ _ => false) (fun _ _ _ => false) (fun _ _ _ _ => false) (fun _ _ _ => false) (fun _ _ _ _ => false) (fun _ _ _ _ => false) (fun _ _ _ => false) (fun _ _ _ => false) (fun _ _ _ _ => false) (fun _ _ _ _ => false) (fun _ _ _ _ _ => false) (fun _ _ _ _ => false) (fun _ _ => false) (fun _ _ => false) (fun _ _ => false) (fun _ _ _ _ => false) (fun _ _ _ _ => false) (fun _ _ _ _ => false) (fun _ _ => false) k (fun _ _ _ => false) (fun _ _ _ => false) (fun _ _ => false) (fun _ _ => false) (fun _ _ => false) (fun _ _ _ => false) (fun _ _ _ _ => false)
theorem vEConstant_el {e : PySem.Expr} {k : Const → Nat → Pos → Bool} {P : Prop} (H : ∀ a0 a1 a2, e = .Constant a0 a1 a2 → k a0 a1 a2 = true → P) (h : vEConstant e k = true) : P := @PySem.Expr.casesOn (fun e2 => e = e2 → vEConstant e2 k = true → P) e (fun _ _ _ _ h => nfB h) (fun _ _ _ _ h => nfB h) (fun _ _ _ _ _ h => nfB h) (fun _ _ _ _ h => nfB h) (fun _ _ _ _ _ h => nfB h) (fun _ _ _ _ _ h => nfB h) (fun _ _ _ _ h => nfB h) (fun _ _ _ _ h => nfB h) (fun _ _ _ _ _ h => nfB h) (fun _ _ _ _ _ h => nfB h) (fun _ _ _ _ _ _ h => nfB h) (fun _ _ _ _ _ h => nfB h) (fun _ _ _ h => nfB h) (fun _ _ _ h => nfB h) (fun _ _ _ h => nfB h) (fun _ _ _ _ _ h => nfB h) (fun _ _ _ _ _ h => nfB h) (fun _ _ _ _ _ h => nfB h) (fun _ _ _ h => nfB h) (fun a0 a1 a2 q h => H a0 a1 a2 q h) (fun _ _ _ _ h => nfB h) (fun _ _ _ _ h => nfB h) (fun _ _ _ h => nfB h) (fun _ _ _ h => nfB h) (fun _ _ _ h => nfB h) (fun _ _ _ _ h => nfB h) (fun _ _ _ _ _ h => nfB h) rfl h
noncomputable def vEName (e : PySem.Expr) (k : PySem.Str → Pos → Bool) : Bool := @PySem.Expr.casesOn (fun _ => Bool) e (fun _ _ _ => false) (fun _ _ _ => false) (fun _ _ _ _ => false) (fun _ _ _ => false) (fun _ _ _ _ => false) (fun _ _ _ _ => false) (fun _ _ _ => false) (fun _ _ _ => false) (fun _ _ _ _ => false) (fun _ _ _ _ => false) (fun _ _ _ _ _ => false) (fun _ _ _ _ => false) (fun _ _ => false) (fun _ _ => false) (fun _ _ => false) (fun _ _ _ _ => false) (fun _ _ _ _ => false) (fun _ _ _ _ => false) (fun _ _ => false) (fun _ _ _ => false) (fun _ _ _ => false) (fun _ _ _ => false) (fun _ _ => false) k (fun _ _ => false) (fun _ _ _ => false) (fun _ _ _ _ => false)
theorem vEName_el {e : PySem.Expr} {k : PySem.Str → Pos → Bool} {P : Prop} (H : ∀ a0 a1, e = .Name a0 a1 → k a0 a1 = true → P) (h : vEName e k = true) : P := @PySem.Expr.casesOn (fun e2 => e = e2 → vEName e2 k = true → P) e (fun _ _ _ _ h => nfB h) (fun _ _ _ _ h => nfB h) (fun _ _ _ _ _ h => nfB h) (fun _ _ _ _ h => nfB h) (fun _ _ _ _ _ h => nfB h) (fun _ _ _ _ _ h => nfB h) (fun _ _ _ _ h => nfB h) (fun _ _ _ _ h => nfB h) (fun _ _ _ _ _ h => nfB h) (fun _ _ _ _ _ h => nfB h) (fun _ _ _ _ _ _ h => nfB h) (fun _ _ _ _ _ h => nfB h) (fun _ _ _ h => nfB h) (fun _ _ _ h => nfB h) (fun _ _ _ h => nfB h) (fun _ _ _ _ _ h => nfB h) (fun _ _ _ _ _ h => nfB h) (fun _ _ _ _ _ h => nfB h) (fun _ _ _ h => nfB h) (fun _ _ _ _ h => nfB h) (fun _ _ _ _ h => nfB h) (fun _ _ _ _ h => nfB h) (fun _ _ _ h => nfB h) (fun a0 a1 q h => H a0 a1 q h) (fun _ _ _ h => nfB h) (fun _ _ _ _ h => nfB h) (fun _ _ _ _ _ h => nfB h) rfl h
noncomputable def vETuple (e : PySem.Expr) (k : List PySem.Expr → Nat → Pos → Bool) : Bool := @PySem.Expr.casesOn (fun _ => Bool) e (fun _ _ _ => false) (fun _ _ _ => false) (fun _ _ _ _ => false) (fun _ _ _ => false) (fun _ _ _ _ => false) (fun _ _ _ _ => false) (fun _ _ _ => false) (fun _ _ _ => false) (fun _ _ _ _ => false) (fun _ _ _ _ => false) (fun _ _ _ _ _ => false) (fun _ _ _ _ => false) (fun _ _ => false) (fun _ _ => false) (fun _ _ => false) (fun _ _ _ _ => false) (fun _ _ _ _ => false) (fun _ _ _ _ => false) (fun _ _ => false) (fun _ _ _ => false) (fun _ _ _ => false) (fun _ _ _ => false) (fun _ _ => false) (fun _ _ => false) (fun _ _ => false) k (fun _ _ _ _ => false)
theorem vETuple_el {e : PySem.Expr} {k : List PySem.Expr → Nat → Pos → Bool} {P : Prop} (H : ∀ a0 a1 a2, e = .Tuple a0 a1 a2 → k a0 a1 a2 = true → P) (h : vETuple e k = true) : P := @PySem.Expr.casesOn (fun e2 => e = e2 → vETuple e2 k = true → P) e (fun _ _ _ _ h => nfB h) (fun _ _ _ _ h => nfB h) (fun _ _ _ _ _ h => nfB h) (fun _ _ _ _ h => nfB h) (fun _ _ _ _ _ h => nfB h) (fun _ _ _ _ _ h => nfB h) (fun _ _ _ _ h => nfB h) (fun _ _ _ _ h => nfB h) (fun _ _ _ _ _ h => nfB h) (fun _ _ _ _ _ h => nfB h) (fun _ _ _ _ _ _ h => nfB h) (fun _ _ _ _ _ h => nfB h) (fun _ _ _ h => nfB h) (fun _ _ _ h => nfB h) (fun _ _ _ h => nfB h) (fun _ _ _ _ _ h => nfB h) (fun _ _ _ _ _ h => nfB h) (fun _ _ _ _ _ h => nfB h) (fun _ _ _ h => nfB h) (fun _ _ _ _ h => nfB h) (fun _ _ _ _ h => nfB h) (fun _ _ _ _ h => nfB h) (fun _ _ _ h => nfB h) (fun _ _ _ h => nfB h) (fun _ _ _ h => nfB h) (fun a0 a1 a2 q h => H a0 a1 a2 q h) (fun _ _ _ _ _ h => nfB h) rfl h
noncomputable def vEList (e : PySem.Expr) (k : List PySem.Expr → Pos → Bool) : Bool := @PySem.Expr.casesOn (fun _ => Bool) e (fun _ _ _ => false) (fun _ _ _ => false) (fun _ _ _ _ => false) (fun _ _ _ => false) (fun _ _ _ _ => false) (fun _ _ _ _ => false) (fun _ _ _ => false) (fun _ _ _ => false) (fun _ _ _ _ => false) (fun _ _ _ _ => false) (fun _ _ _ _ _ => false) (fun _ _ _ _ => false) (fun _ _ => false) (fun _ _ => false) (fun _ _ => false) (fun _ _ _ _ => false) (fun _ _ _ _ => false) (fun _ _ _ _ => false) (fun _ _ => false) (fun _ _ _ => false) (fun _ _ _ => false) (fun _ _ _ => false) (fun _ _ => false) (fun _ _ => false) k (fun _ _ _ => false) (fun _ _ _ _ => false)
theorem vEList_el {e : PySem.Expr} {k : List PySem.Expr → Pos → Bool} {P : Prop} (H : ∀ a0 a1, e = .List a0 a1 → k a0 a1 = true → P) (h : vEList e k = true) : P := @PySem.Expr.casesOn (fun e2 => e = e2 → vEList e2 k = true → P) e (fun _ _ _ _ h => nfB h) (fun _ _ _ _ h => nfB h) (fun _ _ _ _ _ h => nfB h) (fun _ _ _ _ h => nfB h) (fun _ _ _ _ _ h => nfB h) (fun _ _ _ _ _ h => nfB h) (fun _ _ _ _ h => nfB h) (fun _ _ _ _ h => nfB h) (fun _ _ _ _ _ h => nfB h) (fun _ _ _ _ _ h => nfB h) (fun _ _ _ _ _ _ h => nfB h) (fun _ _ _ _ _ h => nfB h) (fun _ _ _ h => nfB h) (fun _ _ _ h => nfB h) (fun _ _ _ h => nfB h) (fun _ _ _ _ _ h => nfB h) (fun _ _ _ _ _ h => nfB h) (fun _ _ _ _ _ h => nfB h) (fun _ _ _ h => nfB h) (fun _ _ _ _ h => nfB h) (fun _ _ _ _ h => nfB h) (fun _ _ _ _ h => nfB h) (fun _ _ _ h => nfB h) (fun _ _ _ h => nfB h) (fun a0 a1 q h => H a0 a1 q h) (fun _ _ _ _ h => nfB h) (fun _ _ _ _ _ h => nfB h) rfl h
noncomputable def vEDict (e : PySem.Expr) (k : List (Option PySem.Expr) → List PySem.Expr → Pos → Bool) : Bool := @PySem.Expr.casesOn (fun _ => Bool) e (fun _ _ _ => false) (fun _ _ _ => false) (fun _ _ _ _ => false) (fun _ _ _ => false) (fun _ _ _ _ => false) (fun _ _ _ _ => false) k (fun _ _ _ => false) (fun _ _ _ _ => false) (fun _ _ _ _ => false) (fun _ _ _ _ _ => false) (fun _ _ _ _ => false) (fun _ _ => false) (fun _ _ => false) (fun _ _ => false) (fun _ _ _ _ => false) (fun _ _ _ _ => false) (fun _ _ _ _ => false) (fun _ _ => false) (fun _ _ _ => false) (fun _ _ _ => false) (fun _ _ _ => false) (fun _ _ => false) (fun _ _ => false) (fun _ _ => false) (fun _ _ _ => false) (fun _ _ _ _ => false)
theorem vEDict_el {e : PySem.Expr} {k : List (Option PySem.Expr) → List PySem.Expr → Pos → Bool} {P : Prop} (H : ∀ a0 a1 a2, e = .Dict a0 a1 a2 → k a0 a1 a2 = true → P) (h : vEDict e k = true) : P := @PySem.Expr.casesOn (fun e2 => e = e2 → vEDict e2 k = true → P) e (fun _ _ _ _ h => nfB h) (fun _ _ _ _ h => nfB h) (fun _ _ _ _ _ h => nfB h) (fun _ _ _ _ h => nfB h) (fun _ _ _ _ _ h => nfB h) (fun _ _ _ _ _ h => nfB h) (fun a0 a1 a2 q h => H a0 a1 a2 q h) (fun _ _ _ _ h => nfB h) (fun _ _ _ _ _ h => nfB h) (fun _ _ _ _ _ h => nfB h) (fun _ _ _ _ _ _ h => nfB h) (fun _ _ _ _ _ h => nfB h) (fun _ _ _ h => nfB h) (fun _ _ _ h => nfB h) (fun _ _ _ h => nfB h) (fun _ _ _ _ _ h => nfB h) (fun _ _ _ _ _ h => nfB h) (fun _ _ _ _ _ h => nfB h) (fun _ _ _ h => nfB h) (fun _ _ _ _ h => nfB h) (fun _ _ _ _ h => nfB h) (fun _ _ _ _ h => nfB h) (fun _ _ _ h => nfB h) (fun _ _ _ h => nfB h) (fun _ _ _ h => nfB h) (fun _ _ _ _ h => nfB h) (fun _ _ _ _ _ h => nfB h) rfl h
noncomputable def vEAttribute (e : PySem.Expr) (k : PySem.Expr → PySem.Str → Pos → Bool) : Bool := @PySem.Expr.casesOn (fun _ => Bool) e (fun _ _ _ => false) (fun _ _ _ => false) (fun _ _ _ _ => false) (fun _ _ _ => false) (fun _ _ _ _ => false) (fun _ _ _ _ => false) (fun _ _ _ => false) (fun _ _ _ => false) (fun _ _ _ _ => false) (fun _ _ _ _ => false) (fun _ _ _ _ _ => false) (fun _ _ _ _ => false) (fun _ _ => false) (fun _ _ => false) (fun _ _ => false) (fun _ _ _ _ => false) (fun _ _ _ _ => false) (fun _ _ _ _ => false) (fun _ _ => false) (fun _ _ _ => false) k (fun _ _ _ => false) (fun _ _ => false) (fun _ _ => false) (fun _ _ => false) (fun _ _ _ => false) (fun _ _ _ _ => false)
theorem vEAttribute_el {e : PySem.Expr} {k : PySem.Expr → PySem.Str → Pos → Bool} {P : Prop} (H : ∀ a0 a1 a2, e = .Attribute a0 a1 a2 → k a0 a1 a2 = true → P) (h : vEAttribute e k = true) : P := @PySem.Expr.casesOn (fun e2 => e = e2 → vEAttribute e2 k = true → P) e (fun _ _ _ _ h => nfB h) (fun _ _ _ _ h => nfB h) (fun _ _ _ _ _ h => nfB h) (fun _ _ _ _ h => nfB h) (fun _ _ _ _ _ h => nfB h) (fun _ _ _ _ _ h => nfB h) (fun _ _ _ _ h => nfB h) (fun _ _ _ _ h => nfB h) (fun _ _ _ _ _ h => nfB h) (fun _ _ _ _ _ h => nfB h) (fun _ _ _ _ _ _ h => nfB h) (fun _ _ _ _ _ h => nfB h) (fun _ _ _ h => nfB h) (fun _ _ _ h => nfB h) (fun _ _ _ h => nfB h) (fun _ _ _ _ _ h => nfB h) (fun _ _ _ _ _ h => nfB h) (fun _ _ _ _ _ h => nfB h) (fun _ _ _ h => nfB h) (fun _ _ _ _ h => nfB h) (fun a0 a1 a2 q h => H a0 a1 a2 q h) (fun _ _ _ _ h => nfB h) (fun _ _ _ h => nfB h) (fun _ _ _ h => nfB h) (fun _ _ _ h => nfB h) (fun _ _ _ _ h => nfB h) (fun _ _ _ _ _ h => nfB h) rfl h
noncomputable def vESubscript (e : PySem.Expr) (k : PySem.Expr → PySem.Expr → Pos → Bool) : Bool := @PySem.Expr.casesOn (fun _ => Bool) e (fun _ _ _ => false) (fun _ _ _ => false) (fun _ _ _ _ => false) (fun _ _ _ => false) (fun _ _ _ _ => false) (fun _ _ _ _ => false) (fun _ _ _ => false) (fun _ _ _ => false) (fun _ _ _ _ => false) (fun _ _ _ _ => false) (fun _ _ _ _ _ => false) (fun _ _ _ _ => false) (fun _ _ => false) (fun _ _ => false) (fun _ _ => false) (fun _ _ _ _ => false) (fun _ _ _ _ => false) (fun _ _ _ _ => false) (fun _ _ => false) (fun _ _ _ => false) (fun _ _ _ => false) k (fun _ _ => false) (fun _ _ => false) (fun _ _ => false) (fun _ _ _ => false) (fun _ _ _ _ => false)
theorem vESubscript_el {e : PySem.Expr} {k : PySem.Expr → PySem.Expr → Pos → Bool} {P : Prop} (H : ∀ a0 a1 a2, e = .Subscript a0 a1 a2 → k a0 a1 a2 = true → P) (h : vESubscript e k = true) : P := @PySem.Expr.casesOn (fun e2 => e = e2 → vESubscript e2 k = true → P) e (fun _ _ _ _ h => nfB h) (fun _ _ _ _ h => nfB h) (fun _ _ _ _ _ h => nfB h) (fun _ _ _ _ h => nfB h) (fun _ _ _ _ _ h => nfB h) (fun _ _ _ _ _ h => nfB h) (fun _ _ _ _ h => nfB h) (fun _ _ _ _ h => nfB h) (fun _ _ _ _ _ h => nfB h) (fun _ _ _ _ _ h => nfB h) (fun _ _ _ _ _ _ h => nfB h) (fun _ _ _ _ _ h => nfB h) (fun _ _ _ h => nfB h) (fun _ _ _ h => nfB h) (fun _ _ _ h => nfB h) (fun _ _ _ _ _ h => nfB h) (fun _ _ _ _ _ h => nfB h) (fun _ _ _ _ _ h => nfB h) (fun _ _ _ h => nfB h) (fun _ _ _ _ h => nfB h) (fun _ _ _ _ h => nfB h) (fun a0 a1 a2 q h => H a0 a1 a2 q h) (fun _ _ _ h => nfB h) (fun _ _ _ h => nfB h) (fun _ _ _ h => nfB h) (fun _ _ _ _ h => nfB h) (fun _ _ _ _ _ h => nfB h) rfl h
noncomputable def vESlice (e : PySem.Expr) (k : Option PySem.Expr → Option PySem.Expr → Option PySem.Expr → Pos → Bool) : Bool := @PySem.Expr.casesOn (fun _ => Bool) e (fun _ _ _ => false) (fun _ _ _ => false) (fun _ _ _ _ => false) (fun _ _ _ => false) (fun _ _ _ _ => false) (fun _ _ _ _ => false) (fun _ _ _ => false) (fun _ _ _ => false) (fun _ _ _ _ => false) (fun _ _ _ _ => false) (fun _ _ _ _ _ => false) (fun _ _ _ _ => false) (fun _ _ => false) (fun _ _ => false) (fun _ _ => false) (fun _ _ _ _ => false) (fun _ _ _ _ => false) (fun _ _ _ _ => false) (fun _ _ => false) (fun _ _ _ => false) (fun _ _ _ => false) (fun _ _ _ => false) (fun _ _ => false) (fun _ _ => false) (fun _ _ => false) (fun _ _ _ => false) k
theorem vESlice_el {e : PySem.Expr} {k : Option PySem.Expr → Option PySem.Expr → Option PySem.Expr → Pos → Bool} {P : Prop} (H : ∀ a0 a1 a2 a3, e = .Slice a0 a1 a2 a3 → k a0 a1 a2 a3 = true → P) (h : vESlice e k = true) : P := @PySem.Expr.casesOn (fun e2 => e = e2 → vESlice e2 k = true → P) e (fun _ _ _ _ h => nfB h) (fun _ _ _ _ h => nfB h) (fun _ _ _ _ _ h => nfB h) (fun _ _ _ _ h => nfB h) (fun _ _ _ _ _ h => nfB h) (fun _ _ _ _ _ h => nfB h) (fun _ _ _ _ h => nfB h) (fun _ _ _ _ h => nfB h) (fun _ _ _ _ _ h => nfB h) (fun _ _ _ _ _ h => nfB h) (fun _ _ _ _ _ _ h => nfB h) (fun _ _ _ _ _ h => nfB h) (fun _ _ _ h => nfB h) (fun _ _ _ h => nfB h) (fun _ _ _ h => nfB h) (fun _ _ _ _ _ h => nfB h) (fun _ _ _ _ _ h => nfB h) (fun _ _ _ _ _ h => nfB h) (fun _ _ _ h => nfB h) (fun _ _ _ _ h => nfB h) (fun _ _ _ _ h => nfB h) (fun _ _ _ _ h => nfB h) (fun _ _ _ h => nfB h) (fun _ _ _ h => nfB h) (fun _ _ _ h => nfB h) (fun _ _ _ _ h => nfB h) (fun a0 a1 a2 a3 q h => H a0 a1 a2 a3 q h) rfl h
noncomputable def vECall (e : PySem.Expr) (k : PySem.Expr → List PySem.Expr → List Keyword → Pos → Bool) : Bool := @PySem.Expr.casesOn (fun _ => Bool) e (fun _ _ _ => false) (fun _ _ _ => false) (fun _ _ _ _ => false) (fun _ _ _ => false) (fun _ _ _ _ => false) (fun _ _ _ _ => false) (fun _ _ _ => false) (fun _ _ _ => false) (fun _ _ _ _ => false) (fun _ _ _ _ => false) (fun _ _ _ _ _ => false) (fun _ _ _ _ => false) (fun _ _ => false) (fun _ _ => false) (fun _ _ => false) (fun _ _ _ _ => false) k (fun _ _ _ _ => false) (fun _ _ => false) (fun _ _ _ => false) (fun _ _ _ => false) (fun _ _ _ => false) (fun _ _ => false) (fun _ _ => false) (fun _ _ => false) (fun _ _ _ => false) (fun _ _ _ _ => false)
theorem vECall_el {e : PySem.Expr} {k : PySem.Expr → List PySem.Expr → List Keyword → Pos → Bool} {P : Prop} (H : ∀ a0 a1 a2 a3, e = .Call a0 a1 a2 a3 → k a0 a1 a2 a3 = true → P) (h : vECall e k = true) : P := @PySem.Expr.casesOn (fun e2 => e = e2 → vECall e2 k = true → P) e (fun _ _ _ _ h => nfB h) (fun _ _ _ _ h => nfB h) (fun _ _ _ _ _ h => nfB h) (fun _ _ _ _ h => nfB h) (fun _ _ _ _ _ h => nfB h) (fun _ _ _ _ _ h => nfB h) (fun _ _ _ _ h => nfB h) (fun _ _ _ _ h => nfB h) (fun _ _ _ _ _ h => nfB h) (fun _ _ _ _ _ h => nfB h) (fun _ _ _ _ _ _ h => nfB h) (fun _ _ _ _ _ h => nfB h) (fun _ _ _ h => nfB h) (fun _ _ _ h => nfB h) (fun _ _ _ h => nfB h) (fun _ _ _ _ _ h => nfB h) (fun a0 a1 a2 a3 q h => H a0 a1 a2 a3 q h) (fun _ _ _ _ _ h => nfB h) (fun _ _ _ h => nfB h) (fun _ _ _ _ h => nfB h) (fun _ _ _ _ h => nfB h) (fun _ _ _ _ h => nfB h) (fun _ _ _ h => nfB h) (fun _ _ _ h => nfB h) (fun _ _ _ h => nfB h) (fun _ _ _ _ h => nfB h) (fun _ _ _ _ _ h => nfB h) rfl h
noncomputable def vECompare (e : PySem.Expr) (k : PySem.Expr → List CmpOp → List PySem.Expr → Pos → Bool) : Bool := @PySem.Expr.casesOn (fun _ => Bool) e (fun _ _ _ => false) (fun _ _ _ => false) (fun _ _ _ _ => false) (fun _ _ _ => false) (fun _ _ _ _ => false) (fun _ _ _ _ => false) (fun _ _ _ => false) (fun _ _ _ => false) (fun _ _ _ _ => false) (fun _ _ _ _ => false) (fun _ _ _ _ _ => false) (fun _ _ _ _ => false) (fun _ _ => false) (fun _ _ => false) (fun _ _ => false) k (fun _ _ _ _ => false) (fun _ _ _ _ => false) (fun _ _ => false) (fun _ _ _ => false) (fun _ _ _ => false) (fun _ _ _ => false) (fun _ _ => false) (fun _ _ => false) (fun _ _ => false) (fun _ _ _ => false) (fun _ _ _ _ => false)
theorem vECompare_el {e : PySem.Expr} {k : PySem.Expr → List CmpOp → List PySem.Expr → Pos → Bool} {P : Prop} (H : ∀ a0 a1 a2 a3, e = .Compare a0 a1 a2 a3 → k a0 a1 a2 a3 = true → P) (h : vECompare e k = true) : P := @PySem.Expr.casesOn (fun e2 => e = e2 → vECompare e2 k = true → P) e (fun _ _ _ _ h => nfB h) (fun _ _ _ _ h => nfB h) (fun _ _ _ _ _ h => nfB h) (fun _ _ _ _ h => nfB h) (fun _ _ _ _ _ h => nfB h) (fun _ _ _ _ _ h => nfB h) (fun _ _ _ _ h => nfB h) (fun _ _ _ _ h => nfB h) (fun _ _ _ _ _ h => nfB h) (fun _ _ _ _ _ h => nfB h) (fun _ _ _ _ _ _ h => nfB h) (fun _ _ _ _ _ h => nfB h) (fun _ _ _ h => nfB h) (fun _ _ _ h => nfB h) (fun _ _ _ h => nfB h) (fun a0 a1 a2 a3 q h => H a0 a1 a2 a3 q h) (fun _ _ _ _ _ h => nfB h) (fun _ _ _ _ _ h => nfB h) (fun _ _ _ h => nfB h) (fun _ _ _ _ h => nfB h) (fun _ _ _ _ h => nfB h) (fun _ _ _ _ h => nfB h) (fun _ _ _ h => nfB h) (fun _ _ _ h => nfB h) (fun _ _ _ h => nfB h) (fun _ _ _ _ h => nfB h) (fun _ _ _ _ _ h => nfB h) rfl h
noncomputable def vEBoolOp (e : PySem.Expr) (k : BoolOp → List PySem.Expr → Pos → Bool) : Bool := @PySem.Expr.casesOn (fun _ => Bool) e k (fun _ _ _ => false) (fun _ _ _ _ => false) (fun _ _ _ => false) (fun _ _ _ _ => false) (fun _ _ _ _ => false) (fun _ _ _ => false) (fun _ _ _ => false) (fun _ _ _ _ => false) (fun _ _ _ _ => false) (fun _ _ _ _ _ => false) (fun _ _ _ _ => false) (fun _ _ => false) (fun _ _ => false) (fun _ _ => false) (fun _ _ _ _ => false) (fun _ _ _ _ => false) (fun _ _ _ _ => false) (fun _ _ => false) (fun _ _ _ => false) (fun _ _ _ => false) (fun _ _ _ => false) (fun _ _ => false) (fun _ _ => false) (fun _ _ => false) (fun _ _ _ => false) (fun _ _ _ _ => false)
theorem vEBoolOp_el {e : PySem.Expr} {k : BoolOp → List PySem.Expr → Pos → Bool} {P : Prop} (H : ∀ a0 a1 a2, e = .BoolOp a0 a1 a2 → k a0 a1 a2 = true → P) (h : vEBoolOp e k = true) : P := @PySem.Expr.casesOn (fun e2 => e = e2 → vEBoolOp e2 k = true → P) e (fun a0 a1 a2 q h => H a0 a1 a2 q h) (fun _ _ _ _ h => nfB h) (fun _ _ _ _ _ h => nfB h) (fun _ _ _ _ h => nfB h) (fun _ _ _ _ _ h => nfB h) (fun _ _ _ _ _ h => nfB h) (fun _ _ _ _ h => nfB h) (fun _ _ _ _ h => nfB h) (fun _ _ _ _ _ h => nfB h) (fun _ _ _ _ _ h => nfB h) (fun _ _ _ _ _ _ h => nfB h) (fun _ _ _ _ _ h => nfB h) (fun _ _ _ h => nfB h) (fun _ _ _ h => nfB h) (fun _ _ _ h => nfB h) (fun _ _ _ _ _ h => nfB h) (fun _ _ _ _ _ h => nfB h) (fun _ _ _ _ _ h => nfB h) (fun _ _ _ h => nfB h) (fun _ _ _ _ h => nfB h) (fun _ _ _ _ h => nfB h) (fun _ _ _ _ h => nfB h) (fun _ _ _ h => nfB h) (fun _ _ _ h => nfB h) (fun _ _ _ h => nfB h) (fun _ _ _ _ h => nfB h) (fun _ _ _ _ _ h => nfB h) rfl h
noncomputable def vEUnaryOp (e : PySem.Expr) (k : UnaryOp → PySem.Expr → Pos → Bool) : Bool := @PySem.Expr.casesOn (fun _ => Bool) e (fun _ _ _ => false) (fun _ _ _ => false) (fun _ _ _ _ => false) k (fun _ _ _ _ => false) (fun _ _ _ _ => false) (fun _ _ _ => false) (fun _ _ _ => false) (fun _ _ _ _ => false) (fun _ _ _ _ => false) (fun _ _ _ _ _ => false) (fun _ _ _ _ => false) (fun _ _ => false) (fun _ _ => false) (fun _ _ => false) (fun _ _ _ _ => false) (fun _ _ _ _ => false) (fun _ _ _ _ => false) (fun _ _ => false) (fun _ _ _ => false) (fun _ _ _ => false) (fun _ _ _ => false) (fun _ _ => false) (fun _ _ => false) (fun _ _ => false) (fun _ _ _ => false) (fun _ _ _ _ => false)
theorem vEUnaryOp_el {e : PySem.Expr} {k : UnaryOp → PySem.Expr → Pos → Bool} {P : Prop} (H : ∀ a0 a1 a2, e = .UnaryOp a0 a1 a2 → k a0 a1 a2 = true → P) (h : vEUnaryOp e k = true) : P := @PySem.Expr.casesOn (fun e2 => e = e2 → vEUnaryOp e2 k = true → P) e (fun _ _ _ _ h => nfB h) (fun _ _ _ _ h => nfB h) (fun _ _ _ _ _ h => nfB h) (fun a0 a1 a2 q h => H a0 a1 a2 q h) (fun _ _ _ _ _ h => nfB h) (fun _ _ _ _ _ h => nfB h) (fun _ _ _ _ h => nfB h) (fun _ _ _ _ h => nfB h) (fun _ _ _ _ _ h => nfB h) (fun _ _ _ _ _ h => nfB h) (fun _ _ _ _ _ _ h => nfB h) (fun _ _ _ _ _ h => nfB h) (fun _ _ _ h => nfB h) (fun _ _ _ h => nfB h) (fun _ _ _ h => nfB h) (fun _ _ _ _ _ h => nfB h) (fun _ _ _ _ _ h => nfB h) (fun _ _ _ _ _ h => nfB h) (fun _ _ _ h => nfB h) (fun _ _ _ _ h => nfB h) (fun _ _ _ _ h => nfB h) (fun _ _ _ _ h => nfB h) (fun _ _ _ h => nfB h) (fun _ _ _ h => nfB h) (fun _ _ _ h => nfB h) (fun _ _ _ _ h => nfB h) (fun _ _ _ _ _ h => nfB h) rfl h
noncomputable def vEBinOp (e : PySem.Expr) (k : PySem.Expr → Operator → PySem.Expr → Pos → Bool) : Bool := @PySem.Expr.casesOn (fun _ => Bool) e (fun _ _ _ => false) (fun _ _ _ => false) k (fun _ _ _ => false) (fun _ _ _ _ => false) (fun _ _ _ _ => false) (fun _ _ _ => false) (fun _ _ _ => false) (fun _ _ _ _ => false) (fun _ _ _ _ => false) (fun _ _ _ _ _ => false) (fun _ _ _ _ => false) (fun _ _ => false) (fun _ _ => false) (fun _ _ => false) (fun _ _ _ _ => false) (fun _ _ _ _ => false) (fun _ _ _ _ => false) (fun _ _ => false) (fun _ _ _ => false) (fun _ _ _ => false) (fun _ _ _ => false) (fun _ _ => false) (fun _ _ => false) (fun _ _ => false) (fun _ _ _ => false) (fun _ _ _ _ => false)
theorem vEBinOp_el {e : PySem.Expr} {k : PySem.Expr → Operator → PySem.Expr → Pos → Bool} {P : Prop} (H : ∀ a0 a1 a2 a3, e = .BinOp a0 a1 a2 a3 → k a0 a1 a2 a3 = true → P) (h : vEBinOp e k = true) : P := @PySem.Expr.casesOn (fun e2 => e = e2 → vEBinOp e2 k = true → P) e (fun _ _ _ _ h => nfB h) (fun _ _ _ _ h => nfB h) (fun a0 a1 a2 a3 q h => H a0 a1 a2 a3 q h) (fun _ _ _ _ h => nfB h) (fun _ _ _ _ _ h => nfB h) (fun _ _ _ _ _ h => nfB h) (fun _ _ _ _ h => nfB h) (fun _ _ _ _ h => nfB h) (fun _ _ _ _ _ h => nfB h) (fun _ _ _ _ _ h => nfB h) (fun _ _ _ _ _ _ h => nfB h) (fun _ _ _ _ _ h => nfB h) (fun _ _ _ h => nfB h) (fun _ _ _ h => nfB h) (fun _ _ _ h => nfB h) (fun _ _ _ _ _ h => nfB h) (fun _ _ _ _ _ h => nfB h) (fun _ _ _ _ _ h => nfB h) (fun _ _ _ h => nfB h) (fun _ _ _ _ h => nfB h) (fun _ _ _ _ h => nfB h) (fun _ _ _ _ h => nfB h) (fun _ _ _ h => nfB h) (fun _ _ _ h => nfB h) (fun _ _ _ h => nfB h) (fun _ _ _ _ h => nfB h) (fun _ _ _ _ _ h => nfB h) rfl h
noncomputable def vEIfExp (e : PySem.Expr) (k : PySem.Expr → PySem.Expr → PySem.Expr → Pos → Bool) : Bool := @PySem.Expr.casesOn (fun _ => Bool) e (fun _ _ _ => false) (fun _ _ _ => false) (fun _ _ _ _ => false) (fun _ _ _ => false) (fun _ _ _ _ => false) k (fun _ _ _ => false) (fun _ _ _ => false) (fun _ _ _ _ => false) (fun _ _ _ _ => false) (fun _ _ _ _ _ => false) (fun _ _ _ _ => false) (fun _ _ => false) (fun _ _ => false) (fun _ _ => false) (fun _ _ _ _ => false) (fun _ _ _ _ => false) (fun _ _ _ _ => false) (fun _ _ => false) (fun _ _ _ => false) (fun _ _ _ => false) (fun _ _ _ => false) (fun _ _ => false) (fun _ _ => false) (fun _ _ => false) (fun _ _ _ => false) (fun _ _ _ _ => false)
theorem vEIfExp_el {e : PySem.Expr} {k : PySem.Expr → PySem.Expr → PySem.Expr → Pos → Bool} {P : Prop} (H : ∀ a0 a1 a2 a3, e = .IfExp a0 a1 a2 a3 → k a0 a1 a2 a3 = true → P) (h : vEIfExp e k = true) : P := @PySem.Expr.casesOn (fun e2 => e = e2 → vEIfExp e2 k = true → P) e (fun _ _ _ _ h => nfB h) (fun _ _ _ _ h => nfB h) (fun _ _ _ _ _ h => nfB h) (fun _ _ _ _ h => nfB h) (fun _ _ _ _ _ h => nfB h) (fun a0 a1 a2 a3 q h => H a0 a1 a2 a3 q h) (fun _ _ _ _ h => nfB h) (fun _ _ _ _ h => nfB h) (fun _ _ _ _ _ h => nfB h) (fun _ _ _ _ _ h => nfB h) (fun _ _ _ _ _ _ h => nfB h) (fun _ _ _ _ _ h => nfB h) (fun _ _ _ h => nfB h) (fun _ _ _ h => nfB h) (fun _ _ _ h => nfB h) (fun _ _ _ _ _ h => nfB h) (fun _ _ _ _ _ h => nfB h) (fun _ _ _ _ _ h => nfB h) (fun _ _ _ h => nfB h) (fun _ _ _ _ h => nfB h) (fun _ _ _ _ h => nfB h) (fun _ _ _ _ h => nfB h) (fun _ _ _ h => nfB h) (fun _ _ _ h => nfB h) (fun _ _ _ h => nfB h) (fun _ _ _ _ h => nfB h) (fun _ _ _ _ _ h => nfB h) rfl h
noncomputable def vEListComp (e : PySem.Expr) (k : PySem.Expr → List Comprehension → Scope → Pos → Bool) : Bool := @PySem.Expr.casesOn (fun _ => Bool) e (fun _ _ _ => false) (fun _ _ _ => false) (fun _ _ _ _ => false) (fun _ _ _ => false) (fun _ _ _ _ => false) (fun _ _ _ _ => false) (fun _ _ _ => false) (fun _ _ _ => false) k (fun _ _ _ _ => false) (fun _ _ _ _ _ => false) (fun _ _ _ _ => false) (fun _ _ => false) (fun _ _ => false) (fun _ _ => false) (fun _ _ _ _ => false) (fun _ _ _ _ => false) (fun _ _ _ _ => false) (fun _ _ => false) (fun _ _ _ => false) (fun _ _ _ => false) (fun _ _ _ => false) (fun _ _ => false) (fun _ _ => false) (fun _ _ => false) (fun _ _ _ => false) (fun _ _ _ _ => false)
theorem vEListComp_el {e : PySem.Expr} {k : PySem.Expr → List Comprehension → Scope → Pos → Bool} {P : Prop} (H : ∀ a0 a1 a2 a3, e = .ListComp a0 a1 a2 a3 → k a0 a1 a2 a3 = true → P) (h : vEListComp e k = true) : P := @PySem.Expr.casesOn (fun e2 => e = e2 → vEListComp e2 k = true → P) e (fun _ _ _ _ h => nfB h) (fun _ _ _ _ h => nfB h) (fun _ _ _ _ _ h => nfB h) (fun _ _ _ _ h => nfB h) (fun _ _ _ _ _ h => nfB h) (fun _ _ _ _ _ h => nfB h) (fun _ _ _ _ h => nfB h) (fun _ _ _ _ h => nfB h) (fun a0 a1 a2 a3 q h => H a0 a1 a2 a3 q h) (fun _ _ _ _ _ h => nfB h) (fun _ _ _ _ _ _ h => nfB h) (fun _ _ _ _ _ h => nfB h) (fun _ _ _ h => nfB h) (fun _ _ _ h => nfB h) (fun _ _ _ h => nfB h) (fun _ _ _ _ _ h => nfB h) (fun _ _ _ _ _ h => nfB h) (fun _ _ _ _ _ h => nfB h) (fun _ _ _ h => nfB h) (fun _ _ _ _ h => nfB h) (fun _ _ _ _ h => nfB h) (fun _ _ _ _ h => nfB h) (fun _ _ _ h => nfB h) (fun _ _ _ h => nfB h) (fun _ _ _ h => nfB h) (fun _ _ _ _ h => nfB h) (fun _ _ _ _ _ h => nfB h) rfl h
noncomputable def vSExpr (e : Stmt) (k : PySem.Expr → Pos → Bool) : Bool := @Stmt.casesOn (fun _ => Bool) e (fun _ _ _ _ _ _ _ _ _ _ => false) (fun _ _ _ _ _ _ _ _ _ _ => false) (fun _ _ _ _ _ _ _ _ _ _ _ => false) (fun _ _ => false) (fun _ _ => false) (fun _ _ _ => false) (fun _ _ _ _ _ _ _ => false) (fun _ _ _ _ => false) (fun _ _ _ _ _ => false) (fun _ _ _ _ _ => false) (fun _ _ _ _ _ => false) (fun _ _ _ _ => false) (fun _ _ _ _ => false) (fun _ _ _ => false) (fun _ _ _ => false) (fun _ _ _ => false) (fun _ _ _ => false) (fun _ _ _ _ _ => false) (fun _ _ _ _ _ => false) (fun _ _ _ => false) (fun _ _ => false) (fun _ _ _ _ => false) (fun _ _ => false) (fun _ _ => false) k (fun _ => false) (fun _ => false) (fun _ => false)
theorem vSExpr_el {e : Stmt} {k : PySem.Expr → Pos → Bool} {P : Prop} (H : ∀ a0 a1, e = .Expr a0 a1 → k a0 a1 = true → P) (h : vSExpr e k = true) : P := @Stmt.casesOn (fun e2 => e = e2 → vSExpr e2 k = true → P) e (fun _ _ _ _ _ _ _ _ _ _ _ h => nfB h) (fun _ _ _ _ _ _ _ _ _ _ _ h => nfB h) (fun _ _ _ _ _ _ _ _ _ _ _ _ h => nfB h) (fun _ _ _ h => nfB h) (fun _ _ _ h => nfB h) (fun _ _ _ _ h => nfB h) (fun _ _ _ _ _ _ _ _ h => nfB h) (fun _ _ _ _ _ h => nfB h) (fun _ _ _ _ _ _ h => nfB h) (fun _ _ _ _ _ _ h => nfB h) (fun _ _ _ _ _ _ h => nfB h) (fun _ _ _ _ _ h => nfB h) (fun _ _ _ _ _ h => nfB h) (fun _ _ _ _ h => nfB h) (fun _ _ _ _ h => nfB h) (fun _ _ _ _ h => nfB h) (fun _ _ _ _ h => nfB h) (fun _ _ _ _ _ _ h => nfB h) (fun _ _ _ _ _ _ h => nfB h) (fun _ _ _ _ h => nfB h) (fun _ _ _ h => nfB h) (fun _ _ _ _ _ h => nfB h) (fun _ _ _ h => nfB h) (fun _ _ _ h => nfB h) (fun a0 a1 q h => H a0 a1 q h) (fun _ _ h => nfB h) (fun _ _ h => nfB h) (fun _ _ h => nfB h) rfl h
noncomputable def vSAssign (e : Stmt) (k : List PySem.Expr → PySem.Expr → Pos → Bool) : Bool := @Stmt.casesOn (fun _ => Bool) e (fun _ _ _ _ _ _ _ _ _ _ => false) (fun _ _ _ _ _ _ _ _ _ _ => false) (fun _ _ _ _ _ _ _ _ _ _ _ => false) (fun _ _ => false) (fun _ _ => false) k (fun _ _ _ _ _ _ _ => false) (fun _ _ _ _ => false) (fun _ _ _ _ _ => false) (fun _ _ _ _ _ => false) (fun _ _ _ _ _ => false) (fun _ _ _ _ => false) (fun _ _ _ _ => false) (fun _ _ _ => false) (fun _ _ _ => false) (fun _ _ _ => false) (fun _ _ _ => false) (fun _ _ _ _ _ => false) (fun _ _ _ _ _ => false) (fun _ _ _ => false) (fun _ _ => false) (fun _ _ _ _ => false) (fun _ _ => false) (fun _ _ => false) (fun _ _ => false) (fun _ => false) (fun _ => false) (fun _ => false)
theorem vSAssign_el {e : Stmt} {k : List PySem.Expr → PySem.Expr → Pos → Bool} {P : Prop} (H : ∀ a0 a1 a2, e = .Assign a0 a1 a2 → k a0 a1 a2 = true → P) (h : vSAssign e k = true) : P := @Stmt.casesOn (fun e2 => e = e2 → vSAssign e2 k = true → P) e (fun _ _ _ _ _ _ _ _ _ _ _ h => nfB h) (fun _ _ _ _ _ _ _ _ _ _ _ h => nfB h) (fun _ _ _ _ _ _ _ _ _ _ _ _ h => nfB h) (fun _ _ _ h => nfB h) (fun _ _ _ h => nfB h) (fun a0 a1 a2 q h => H a0 a1 a2 q h) (fun _ _ _ _ _ _ _ _ h => nfB h) (fun _ _ _ _ _ h => nfB h) (fun _ _ _ _ _ _ h => nfB h) (fun _ _ _ _ _ _ h => nfB h) (fun _ _ _ _ _ _ h => nfB h) (fun _ _ _ _ _ h => nfB h) (fun _ _ _ _ _ h => nfB h) (fun _ _ _ _ h => nfB h) (fun _ _ _ _ h => nfB h) (fun _ _ _ _ h => nfB h) (fun _ _ _ _ h => nfB h) (fun _ _ _ _ _ _ h => nfB h) (fun _ _ _ _ _ _ h => nfB h) (fun _ _ _ _ h => nfB h) (fun _ _ _ h => nfB h) (fun _ _ _ _ _ h => nfB h) (fun _ _ _ h => nfB h) (fun _ _ _ h => nfB h) (fun _ _ _ h => nfB h) (fun _ _ h => nfB h) (fun _ _ h => nfB h) (fun _ _ h => nfB h) rfl h
noncomputable def vSIf (e : Stmt) (k : PySem.Expr → List Stmt → List Stmt → Pos → Bool) : Bool := @Stmt.casesOn (fun _ => Bool) e (fun _ _ _ _ _ _ _ _ _ _ => false) (fun _ _ _ _ _ _ _ _ _ _ => false) (fun _ _ _ _ _ _ _ _ _ _ _ => false) (fun _ _ => false) (fun _ _ => false) (fun _ _ _ => false) (fun _ _ _ _ _ _ _ => false) (fun _ _ _ _ => false) (fun _ _ _ _ _ => false) (fun _ _ _ _ _ => false) (fun _ _ _ _ _ => false) (fun _ _ _ _ => false) k (fun _ _ _ => false) (fun _ _ _ => false) (fun _ _ _ => false) (fun _ _ _ => false) (fun _ _ _ _ _ => false) (fun _ _ _ _ _ => false) (fun _ _ _ => false) (fun _ _ => false) (fun _ _ _ _ => false) (fun _ _ => false) (fun _ _ => false) (fun _ _ => false) (fun _ => false) (fun _ => false) (fun _ => false)
theorem vSIf_el {e : Stmt} {k : PySem.Expr → List Stmt → List Stmt → Pos → Bool} {P : Prop} (H : ∀ a0 a1 a2 a3, e = .If a0 a1 a2 a3 → k a0 a1 a2 a3 = true → P) (h : vSIf e k = true) : P := @Stmt.casesOn (fun e2 => e = e2 → vSIf e2 k = true → P) e (fun _ _ _ _ _ _ _ _ _ _ _ h => nfB h) (fun _ _ _ _ _ _ _ _ _ _ _ h => nfB h) (fun _ _ _ _ _ _ _ _ _ _ _ _ h => nfB h) (fun _ _ _ h => nfB h) (fun _ _ _ h => nfB h) (fun _ _ _ _ h => nfB h) (fun _ _ _ _ _ _ _ _ h => nfB h) (fun _ _ _ _ _ h => nfB h) (fun _ _ _ _ _ _ h => nfB h) (fun _ _ _ _ _ _ h => nfB h) (fun _ _ _ _ _ _ h => nfB h) (fun _ _ _ _ _ h => nfB h) (fun a0 a1 a2 a3 q h => H a0 a1 a2 a3 q h) (fun _ _ _ _ h => nfB h) (fun _ _ _ _ h => nfB h) (fun _ _ _ _ h => nfB h) (fun _ _ _ _ h => nfB h) (fun _ _ _ _ _ _ h => nfB h) (fun _ _ _ _ _ _ h => nfB h) (fun _ _ _ _ h => nfB h) (fun _ _ _ h => nfB h) (fun _ _ _ _ _ h => nfB h) (fun _ _ _ h => nfB h) (fun _ _ _ h => nfB h) (fun _ _ _ h => nfB h) (fun _ _ h => nfB h) (fun _ _ h => nfB h) (fun _ _ h => nfB h) rfl h
noncomputable def vSWhile (e : Stmt) (k : PySem.Expr → List Stmt → List Stmt → Pos → Bool) : Bool := @Stmt.casesOn (fun _ => Bool) e (fun _ _ _ _ _ _ _ _ _ _ => false) (fun _ _ _ _ _ _ _ _ _ _ => false) (fun _ _ _ _ _ _ _ _ _ _ _ => false) (fun _ _ => false) (fun _ _ => false) (fun _ _ _ => false) (fun _ _ _ _ _ _ _ => false) (fun _ _ _ _ => false) (fun _ _ _ _ _ => false) (fun _ _ _ _ _ => false) (fun _ _ _ _ _ => false) k (fun _ _ _ _ => false) (fun _ _ _ => false) (fun _ _ _ => false) (fun _ _ _ => false) (fun _ _ _ => false) (fun _ _ _ _ _ => false) (fun _ _ _ _ _ => false) (fun _ _ _ => false) (fun _ _ => false) (fun _ _ _ _ => false) (fun _ _ => false) (fun _ _ => false) (fun _ _ => false) (fun _ => false) (fun _ => false) (fun _ => false)
theorem vSWhile_el {e : Stmt} {k : PySem.Expr → List Stmt → List Stmt → Pos → Bool} {P : Prop} (H : ∀ a0 a1 a2 a3, e = .While a0 a1 a2 a3 → k a0 a1 a2 a3 = true → P) (h : vSWhile e k = true) : P := @Stmt.casesOn (fun e2 => e = e2 → vSWhile e2 k = true → P) e (fun _ _ _ _ _ _ _ _ _ _ _ h => nfB h) (fun _ _ _ _ _ _ _ _ _ _ _ h => nfB h) (fun _ _ _ _ _ _ _ _ _ _ _ _ h => nfB h) (fun _ _ _ h => nfB h) (fun _ _ _ h => nfB h) (fun _ _ _ _ h => nfB h) (fun _ _ _ _ _ _ _ _ h => nfB h) (fun _ _ _ _ _ h => nfB h) (fun _ _ _ _ _ _ h => nfB h) (fun _ _ _ _ _ _ h => nfB h) (fun _ _ _ _ _ _ h => nfB h) (fun a0 a1 a2 a3 q h => H a0 a1 a2 a3 q h) (fun _ _ _ _ _ h => nfB h) (fun _ _ _ _ h => nfB h) (fun _ _ _ _ h => nfB h) (fun _ _ _ _ h => nfB h) (fun _ _ _ _ h => nfB h) (fun _ _ _ _ _ _ h => nfB h) (fun _ _ _ _ _ _ h => nfB h) (fun _ _ _ _ h => nfB h) (fun _ _ _ h => nfB h) (fun _ _ _ _ _ h => nfB h) (fun _ _ _ h => nfB h) (fun _ _ _ h => nfB h) (fun _ _ _ h => nfB h) (fun _ _ h => nfB h) (fun _ _ h => nfB h) (fun _ _ h => nfB h) rfl h
noncomputable def vSFor (e : Stmt) (k : PySem.Expr → PySem.Expr → List Stmt → List Stmt → Pos → Bool) : Bool := @Stmt.casesOn (fun _ => Bool) e (fun _ _ _ _ _ _ _ _ _ _ => false) (fun _ _ _ _ _ _ _ _ _ _ => false) (fun _ _ _ _ _ _ _ _ _ _ _ => false) (fun _ _ => false) (fun _ _ => false) (fun _ _ _ => false) (fun _ _ _ _ _ _ _ => false) (fun _ _ _ _ => false) (fun _ _ _ _ _ => false) k (fun _ _ _ _ _ => false) (fun _ _ _ _ => false) (fun _ _ _ _ => false) (fun _ _ _ => false) (fun _ _ _ => false) (fun _ _ _ => false) (fun _ _ _ => false) (fun _ _ _ _ _ => false) (fun _ _ _ _ _ => false) (fun _ _ _ => false) (fun _ _ => false) (fun _ _ _ _ => false) (fun _ _ => false) (fun _ _ => false) (fun _ _ => false) (fun _ => false) (fun _ => false) (fun _ => false)
theorem vSFor_el {e : Stmt} {k : PySem.Expr → PySem.Expr → List Stmt → List Stmt → Pos → Bool} {P : Prop} (H : ∀ a0 a1 a2 a3 a4, e = .For a0 a1 a2 a3 a4 → k a0 a1 a2 a3 a4 = true → P) (h : vSFor e k = true) : P := @Stmt.casesOn (fun e2 => e = e2 → vSFor e2 k = true → P) e (fun _ _ _ _ _ _ _ _ _ _ _ h => nfB h) (fun _ _ _ _ _ _ _ _ _ _ _ h => nfB h) (fun _ _ _ _ _ _ _ _ _ _ _ _ h => nfB h) (fun _ _ _ h => nfB h) (fun _ _ _ h => nfB h) (fun _ _ _ _ h => nfB h) (fun _ _ _ _ _ _ _ _ h => nfB h) (fun _ _ _ _ _ h => nfB h) (fun _ _ _ _ _ _ h => nfB h) (fun a0 a1 a2 a3 a4 q h => H a0 a1 a2 a3 a4 q h) (fun _ _ _ _ _ _ h => nfB h) (fun _ _ _ _ _ h => nfB h) (fun _ _ _ _ _ h => nfB h) (fun _ _ _ _ h => nfB h) (fun _ _ _ _ h => nfB h) (fun _ _ _ _ h => nfB h) (fun _ _ _ _ h => nfB h) (fun _ _ _ _ _ _ h => nfB h) (fun _ _ _ _ _ _ h => nfB h) (fun _ _ _ _ h => nfB h) (fun _ _ _ h => nfB h) (fun _ _ _ _ _ h => nfB h) (fun _ _ _ h => nfB h) (fun _ _ _ h => nfB h) (fun _ _ _ h => nfB h) (fun _ _ h => nfB h) (fun _ _ h => nfB h) (fun _ _ h => nfB h) rfl h
noncomputable def vSReturn (e : Stmt) (k : Option PySem.Expr → Pos → Bool) : Bool := @Stmt.casesOn (fun _ => Bool) e (fun _ _ _ _ _ _ _ _ _ _ => false) (fun _ _ _ _ _ _ _ _ _ _ => false) (fun _ _ _ _ _ _ _ _ _ _ _ => false) k (fun _ _ => false) (fun _ _ _ => false) (fun _ _ _ _ _ _ _ => false) (fun _ _ _ _ => false) (fun _ _ _ _ _ => false) (fun _ _ _ _ _ => false) (fun _ _ _ _ _ => false) (fun _ _ _ _ => false) (fun _ _ _ _ => false) (fun _ _ _ => false) (fun _ _ _ => false) (fun _ _ _ => false) (fun _ _ _ => false) (fun _ _ _ _ _ => false) (fun _ _ _ _ _ => false) (fun _ _ _ => false) (fun _ _ => false) (fun _ _ _ _ => false) (fun _ _ => false) (fun _ _ => false) (fun _ _ => false) (fun _ => false) (fun _ => false) (fun _ => false)
theorem vSReturn_el {e : Stmt} {k : Option PySem.Expr → Pos → Bool} {P : Prop} (H : ∀ a0 a1, e = .Return a0 a1 → k a0 a1 = true → P) (h : vSReturn e k = true) : P := @Stmt.casesOn (fun e2 => e = e2 → vSReturn e2 k = true → P) e (fun _ _ _ _ _ _ _ _ _ _ _ h => nfB h) (fun _ _ _ _ _ _ _ _ _ _ _ h => nfB h) (fun _ _ _ _ _ _ _ _ _ _ _ _ h => nfB h) (fun a0 a1 q h => H a0 a1 q h) (fun _ _ _ h => nfB h) (fun _ _ _ _ h => nfB h) (fun _ _ _ _ _ _ _ _ h => nfB h) (fun _ _ _ _ _ h => nfB h) (fun _ _ _ _ _ _ h => nfB h) (fun _ _ _ _ _ _ h => nfB h) (fun _ _ _ _ _ _ h => nfB h) (fun _ _ _ _ _ h => nfB h) (fun _ _ _ _ _ h => nfB h) (fun _ _ _ _ h => nfB h) (fun _ _ _ _ h => nfB h) (fun _ _ _ _ h => nfB h) (fun _ _ _ _ h => nfB h) (fun _ _ _ _ _ _ h => nfB h) (fun _ _ _ _ _ _ h => nfB h) (fun _ _ _ _ h => nfB h) (fun _ _ _ h => nfB h) (fun _ _ _ _ _ h => nfB h) (fun _ _ _ h => nfB h) (fun _ _ _ h => nfB h) (fun _ _ _ h => nfB h) (fun _ _ h => nfB h) (fun _ _ h => nfB h) (fun _ _ h => nfB h) rfl h
noncomputable def vSTry (e : Stmt) (k : List Stmt → List ExceptHandler → List Stmt → List Stmt → Pos → Bool) : Bool := @Stmt.casesOn (fun _ => Bool) e (fun _ _ _ _ _ _ _ _ _ _ => false) (fun _ _ _ _ _ _ _ _ _ _ => false) (fun _ _ _ _ _ _ _ _ _ _ _ => false) (fun _ _ => false) (fun _ _ => false) (fun _ _ _ => false) (fun _ _ _ _ _ _ _ => false) (fun _ _ _ _ => false) (fun _ _ _ _ _ => false) (fun _ _ _ _ _ => false) (fun _ _ _ _ _ => false) (fun _ _ _ _ => false) (fun _ _ _ _ => false) (fun _ _ _ => false) (fun _ _ _ => false) (fun _ _ _ => false) (fun _ _ _ => false) k (fun _ _ _ _ _ => false) (fun _ _ _ => false) (fun _ _ => false) (fun _ _ _ _ => false) (fun _ _ => false) (fun _ _ => false) (fun _ _ => false) (fun _ => false) (fun _ => false) (fun _ => false)
theorem vSTry_el {e : Stmt} {k : List Stmt → List ExceptHandler → List Stmt → List Stmt → Pos → Bool} {P : Prop} (H : ∀ a0 a1 a2 a3 a4, e = .Try a0 a1 a2 a3 a4 → k a0 a1 a2 a3 a4 = true → P) (h : vSTry e k = true) : P := @Stmt.casesOn (fun e2 => e = e2 → vSTry e2 k = true → P) e (fun _ _ _ _ _ _ _ _ _ _ _ h => nfB h) (fun _ _ _ _ _ _ _ _ _ _ _ h => nfB h) (fun _ _ _ _ _ _ _ _ _ _ _ _ h => nfB h) (fun _ _ _ h => nfB h) (fun _ _ _ h => nfB h) (fun _ _ _ _ h => nfB h) (fun _ _ _ _ _ _ _ _ h => nfB h) (fun _ _ _ _ _ h => nfB h) (fun _ _ _ _ _ _ h => nfB h) (fun _ _ _ _ _ _ h => nfB h) (fun _ _ _ _ _ _ h => nfB h) (fun _ _ _ _ _ h => nfB h) (fun _ _ _ _ _ h => nfB h) (fun _ _ _ _ h => nfB h) (fun _ _ _ _ h => nfB h) (fun _ _ _ _ h => nfB h) (fun _ _ _ _ h => nfB h) (fun a0 a1 a2 a3 a4 q h => H a0 a1 a2 a3 a4 q h) (fun _ _ _ _ _ _ h => nfB h) (fun _ _ _ _ h => nfB h) (fun _ _ _ h => nfB h) (fun _ _ _ _ _ h => nfB h) (fun _ _ _ h => nfB h) (fun _ _ _ h => nfB h) (fun _ _ _ h => nfB h) (fun _ _ h => nfB h) (fun _ _ h => nfB h) (fun _ _ h => nfB h) rfl h
noncomputable def keysB : List (Option PySem.Expr) → List Nm → Bool
  | [], ks => match ks with
    | [] => true
    | _ :: _ => false
  | none :: _, _ => false
  | some e :: es, ks => match ks with
    | [] => false
    | k :: ks => (vEConstant e fun c _ _ => match c with
      | .str s => sEq s k
      | _ => false).and (keysB es ks)
theorem keysB_ok : ∀ {es : List (Option PySem.Expr)} {ks : List Nm}, keysB es ks = true → KeysE es ks
  | [], [], _ => rfl
  | [], _ :: _, h => nfB h
  | none :: _, _, h => nfB h
  | some e :: es, [], h => nfB h
  | some e :: es, k :: ks, h => by
    have h2 := Bool.and_eq_true_iff.mp h
    refine vEConstant_el (fun c n p q h3 => ?_) h2.1
    subst q
    cases c with
    | str s => exact ⟨k, ks, n, p, rfl, by rw [sEq_ok (show sEq s k = true from h3)], keysB_ok h2.2⟩
    | _ => exact nfB h3
noncomputable def isNm (e : PySem.Expr) : Option PySem.Str := @PySem.Expr.casesOn (fun _ => Option PySem.Str) e (fun _ _ _ => none) (fun _ _ _ => none) (fun _ _ _ _ => none) (fun _ _ _ => none) (fun _ _ _ _ => none) (fun _ _ _ _ => none) (fun _ _ _ => none) (fun _ _ _ => none) (fun _ _ _ _ => none) (fun _ _ _ _ => none) (fun _ _ _ _ _ => none) (fun _ _ _ _ => none) (fun _ _ => none) (fun _ _ => none) (fun _ _ => none) (fun _ _ _ _ => none) (fun _ _ _ _ => none) (fun _ _ _ _ => none) (fun _ _ => none) (fun _ _ _ => none) (fun _ _ _ => none) (fun _ _ _ => none) (fun _ _ => none) (fun a0 a1 => some a0) (fun _ _ => none) (fun _ _ _ => none) (fun _ _ _ _ => none)
theorem isNm_ok {e : PySem.Expr} {s : PySem.Str} (h : isNm e = some s) : ∃ p, e = .Name s p :=
  @PySem.Expr.casesOn (fun e2 => isNm e2 = some s → ∃ p, e2 = .Name s p) e (fun _ _ _ h => nsO h) (fun _ _ _ h => nsO h) (fun _ _ _ _ h => nsO h) (fun _ _ _ h => nsO h) (fun _ _ _ _ h => nsO h) (fun _ _ _ _ h => nsO h) (fun _ _ _ h => nsO h) (fun _ _ _ h => nsO h) (fun _ _ _ _ h => nsO h) (fun _ _ _ _ h => nsO h) (fun _ _ _ _ _ h => nsO h) (fun _ _ _ _ h => nsO h) (fun _ _ h => nsO h) (fun _ _ h => nsO h) (fun _ _ h => nsO h) (fun _ _ _ _ h => nsO h) (fun _ _ _ _ h => nsO h) (fun _ _ _ _ h => nsO h) (fun _ _ h => nsO h) (fun _ _ _ h => nsO h) (fun _ _ _ h => nsO h) (fun _ _ _ h => nsO h) (fun _ _ h => nsO h) (fun a p h => ⟨p, congrArg (fun x => PySem.Expr.Name x p) (Option.some.inj h)⟩) (fun _ _ h => nsO h) (fun _ _ _ h => nsO h) (fun _ _ _ _ h => nsO h) h
noncomputable def namesB (kd : KD) : List PySem.Expr → List Nm → Bool
  | [], [] => true
  | e :: es, x :: xs => match isNm e with
    | some s => ((sEq s x).and (okK (kd s))).and (namesB kd es xs)
    | none => false
  | _, _ => false
theorem namesB_ok {kd : KD} {env : Env} (hk : ∀ n, env.kindOf n = kd n) : ∀ {es : List PySem.Expr} {xs : List Nm}, namesB kd es xs = true → NmExps env es xs
  | [], [], _ => rfl
  | [], _ :: _, h => by simp [namesB] at h
  | _ :: _, [], h => by simp [namesB] at h
  | e :: es, x :: xs, h => by
    unfold namesB at h
    split at h
    · rename_i s hs
      simp only [Bool.and_eq_true] at h
      obtain ⟨⟨h1, h2⟩, h3⟩ := h
      obtain ⟨p, rfl⟩ := isNm_ok hs
      have := sEq_ok h1
      subst this
      exact ⟨x, xs, p, rfl, rfl, by rw [hk]; exact okK_ok h2, namesB_ok hk h3⟩
    · cases h
noncomputable def isTup (e : PySem.Expr) : Option (List PySem.Expr × Nat × Pos) := @PySem.Expr.casesOn (fun _ => Option (List PySem.Expr × Nat × Pos)) e (fun _ _ _ => none) (fun _ _ _ => none) (fun _ _ _ _ => none) (fun _ _ _ => none) (fun _ _ _ _ => none) (fun _ _ _ _ => none) (fun _ _ _ => none) (fun _ _ _ => none) (fun _ _ _ _ => none) (fun _ _ _ _ => none) (fun _ _ _ _ _ => none) (fun _ _ _ _ => none) (fun _ _ => none) (fun _ _ => none) (fun _ _ => none) (fun _ _ _ _ => none) (fun _ _ _ _ => none) (fun _ _ _ _ => none) (fun _ _ => none) (fun _ _ _ => none) (fun _ _ _ => none) (fun _ _ _ => none) (fun _ _ => none) (fun _ _ => none) (fun _ _ => none) (fun a0 a1 a2 => some (a0, a1, a2)) (fun _ _ _ _ => none)
theorem isTup_ok {e : PySem.Expr} {q : List PySem.Expr × Nat × Pos} (h : isTup e = some q) : e = .Tuple q.1 q.2.1 q.2.2 :=
  @PySem.Expr.casesOn (fun e2 => isTup e2 = some q → e2 = .Tuple q.1 q.2.1 q.2.2) e (fun _ _ _ h => nsO h) (fun _ _ _ h => nsO h) (fun _ _ _ _ h => nsO h) (fun _ _ _ h => nsO h) (fun _ _ _ _ h => nsO h) (fun _ _ _ _ h => nsO h) (fun _ _ _ h => nsO h) (fun _ _ _ h => nsO h) (fun _ _ _ _ h => nsO h) (fun _ _ _ _ h => nsO h) (fun _ _ _ _ _ h => nsO h) (fun _ _ _ _ h => nsO h) (fun _ _ h => nsO h) (fun _ _ h => nsO h) (fun _ _ h => nsO h) (fun _ _ _ _ h => nsO h) (fun _ _ _ _ h => nsO h) (fun _ _ _ _ h => nsO h) (fun _ _ h => nsO h) (fun _ _ _ h => nsO h) (fun _ _ _ h => nsO h) (fun _ _ _ h => nsO h) (fun _ _ h => nsO h) (fun _ _ h => nsO h) (fun _ _ h => nsO h) (fun a b c h => congrArg (fun x : List PySem.Expr × Nat × Pos => PySem.Expr.Tuple x.1 x.2.1 x.2.2) (Option.some.inj h)) (fun _ _ _ _ h => nsO h) h
noncomputable def one : List Nm → Bool
  | [_] => true
  | _ => false
noncomputable def tgtB (kd : KD) (t : PySem.Expr) (xs : List Nm) : Bool := match isTup t with
  | some q => (namesB kd q.1 xs).and (one xs).not
  | none => (namesB kd [t] xs).and (one xs)
theorem tgtB_ok {kd : KD} {env : Env} (hk : ∀ n, env.kindOf n = kd n) {t : PySem.Expr} {xs : List Nm} (h : tgtB kd t xs = true) : TgtOk env t xs := by
  unfold tgtB at h
  split at h
  · rename_i q hq
    rw [Bool.and_eq_true] at h
    refine .inr ⟨q.1, q.2.1, q.2.2, isTup_ok hq, namesB_ok hk h.1, fun x e => ?_⟩
    subst e
    simp [one] at h
  · rw [Bool.and_eq_true] at h
    obtain ⟨x, xs', p, rfl, rfl, h2, h3⟩ := namesB_ok hk h.1
    simp only [NmExps] at h3
    subst h3
    exact .inl ⟨x, p, rfl, rfl, h2⟩
noncomputable def kdC (scope : Scope) (kd : KD) : KD := fun n => (scope.names.lookup n).map fun k => match k with
  | .free => match kd n with
    | some .cell => .cell
    | _ => .free
  | k => k
theorem kdC_ok {scope : Scope} {kd : KD} {env : Env} {X : List Addr} (V : EnvOk env X) (hk : ∀ n, env.kindOf n = kd n) {Lc : Addr} {cl : List (PySem.Str × Addr)} (n : PySem.Str) : (compEnvC scope cl Lc env).kindOf n = kdC scope kd n := by
  show (relabel scope env).names.lookup n = _
  rw [relabel_lookup]
  unfold kdC
  congr 1
  funext k
  rw [V.kind, hk]
  cases k <;> simp
  cases kd n with
  | none => simp
  | some k => cases k <;> simp
noncomputable def scopeB (kd : KD) (scope : Scope) (T : List Nm) : Bool :=
  (decide (scope.kind = .function)).and (scope.names.all fun p => match p.2 with
    | .cell => false
    | .local => (isLoc (scope.names.lookup p.1)).and (hasN T p.1.cps.toList)
    | .free => match kd p.1 with
      | some .cell => true
      | _ => false
    | _ => true)
theorem scopeB_ok {kd : KD} {scope : Scope} {T : List Nm} {env : Env} (hk : ∀ n, env.kindOf n = kd n) (h : scopeB kd scope T = true) : CScope env scope T := by
  unfold scopeB at h
  rw [Bool.and_eq_true] at h
  obtain ⟨h1, h2⟩ := h
  rw [List.all_eq_true] at h2
  refine ⟨of_decide_eq_true h1, fun x hx e => ?_, fun x hx e => ?_, fun x hx e => ?_, fun x e => ?_⟩
  · have := h2 x hx
    rw [e] at this
    cases this
  · have := h2 x hx
    rw [e] at this
    simp only [Bool.and_eq_true] at this
    exact isLoc_ok this.1
  · have := h2 x hx
    rw [e] at this
    rw [hk]
    dsimp only at this
    split at this
    · assumption
    · cases this
  · have := h2 _ (mem_of_lookupK e)
    simp only [Bool.and_eq_true] at this
    have h3 := hasN_iff.mp this.2
    simpa [toS] using h3
noncomputable def isNil {α : Type} : List α → Bool
  | [] => true
  | _ :: _ => false
theorem isNil_ok {α : Type} {l : List α} (h : isNil l = true) : l = [] := by
  cases l with
  | nil => rfl
  | cons => exact nfB h
noncomputable def isNone {α : Type} : Option α → Bool
  | none => true
  | some _ => false
theorem isNone_ok {α : Type} {l : Option α} (h : isNone l = true) : l = none := by
  cases l with
  | none => rfl
  | some => exact nfB h
noncomputable def nilE : MEs → Bool
  | .nil => true
  | .cons _ _ => false
theorem nilE_ok {l : MEs} (h : nilE l = true) : l = .nil := by
  cases l with
  | nil => rfl
  | cons => exact nfB h
noncomputable def oneL {α : Type} (ts : List α) (k : α → Bool) : Bool := match ts with
  | [] => false
  | t :: more => (isNil more).and (k t)
theorem oneL_el {α : Type} {ts : List α} {k : α → Bool} {P : Prop} (H : ∀ t, ts = [t] → k t = true → P) (h : oneL ts k = true) : P := by
  cases ts with
  | nil => exact nfB h
  | cons t more => exact H t (by rw [isNil_ok (and2 h).1]) (and2 h).2
mutual
noncomputable def chkE (gl : List (Nm × AV)) : KD → ME → PySem.Expr → Bool
  | kd, .c k, e => vEConstant e fun c _ _ => constB k c
  | kd, .lv x, e => vEName e fun s _ => ((sEq s x).and (okK (kd s))).and (eqN x n_debug).not
  | kd, .gl i, e => vEName e fun s _ => match gl[i]? with
      | some p => ((sEq s p.1).and (isGlob (kd s))).and (eqN p.1 n_debug).not
      | none => false
  | kd, .tup es, e => vETuple e fun els _ _ => (chkEs gl kd es els).and (Nat.blt els.length 1000)
  | kd, .lst es, e => vEList e fun els _ => (chkEs gl kd es els).and (Nat.blt els.length 1000)
  | kd, .dic ks es, e => vEDict e fun keys vals _ => match ks with
      | [] => (isNil keys).and ((isNil vals).and (nilE es))
      | k :: ks => ((keysB keys (k :: ks)).and (chkEs gl kd es vals)).and (((Nat.beq (k :: ks).length vals.length).and (Nat.ble (k :: ks).length 15)).and (decide (k :: ks).Nodup))
  | kd, .attr e x, t => vEAttribute t fun v a _ => ((chkE gl kd e v).and (sEq a x)).and (notCall v)
  | kd, .sub e i, t => vESubscript t fun v s _ => ((chkE gl kd e v).and (chkE gl kd i s)).and (plainE s)
  | kd, .sl e n, t => vESubscript t fun v s _ => vESlice s fun lo up st _ => ((isNone lo).and (isNone st)).and (match up with
      | some c => vEConstant c fun m _ _ => match m with
        | .int m => (chkE gl kd e v).and (decide (m = (n : Int)))
        | _ => false
      | none => false)
  | kd, .call f as, t => vECall t fun fe args kws _ => (isNil kws).and (((isNm fe).isSome.and (chkE gl kd f fe)).and (chkEs gl kd as args))
  | kd, .mcall o x as, t => vECall t fun fe args kws pos => (isNil kws).and (vEAttribute fe fun b nm ap => (((chkE gl kd o b).and (sEq nm x)).and ((notCall b).and (ap.endLine == pos.line))).and ((chkEs gl kd as args).and (Nat.blt args.length 30)))
  | kd, .cmp op a b, t => vECompare t fun l ops rs _ => (decide (ops = [op])).and (oneL rs fun r => (chkE gl kd a l).and ((chkE gl kd b r).and (plainE r)))
  | kd, .and es, t => vEBoolOp t fun op vs _ => (decide (op = .And)).and ((chkEs gl kd es vs).and (isNil vs).not)
  | kd, .or es, t => vEBoolOp t fun op vs _ => (decide (op = .Or)).and ((chkEs gl kd es vs).and (isNil vs).not)
  | kd, .not e, t => vEUnaryOp t fun op a _ => (decide (op = .Not)).and (chkE gl kd e a)
  | kd, .neg e, t => vEUnaryOp t fun op a _ => (decide (op = .USub)).and (chkE gl kd e a)
  | kd, .bin op a b, t => vEBinOp t fun l op' r _ => ((decide (op = op')).and (chkE gl kd a l)).and (chkE gl kd b r)
  | kd, .ife t a b, e => vEIfExp e fun t' a' b' _ => ((chkE gl kd t t').and (chkE gl kd a a')).and (chkE gl kd b b')
  | kd, .comp elt tgt it conds, e => vEListComp e fun el gens scope _ => oneL gens fun g => (decide (g.is_async = 0)).and ((((scopeB kd scope ([46, 48] :: tgt)).and (plainE g.iter)).and (chkE gl kd it g.iter)).and (((tgtB (kdC scope kd) g.target tgt).and (tgt.all fun x => isLoc (kdC scope kd (toS x)))).and ((chkE gl (kdC scope kd) elt el).and (chkEs gl (kdC scope kd) conds g.ifs))))
noncomputable def chkEs (gl : List (Nm × AV)) : KD → MEs → List PySem.Expr → Bool
  | _, .nil, es => isNil es
  | kd, .cons m ms, es => match es with
    | e :: r => ((chkE gl kd m e).and (plainE e)).and (chkEs gl kd ms r)
    | [] => false
end
theorem chkEs_plain {gl : List (Nm × AV)} {kd : KD} : ∀ {ms : MEs} {es : List PySem.Expr}, chkEs gl kd ms es = true → es.all plainE = true
  | .nil, [], _ => rfl
  | .nil, _ :: _, h => nfB h
  | .cons m ms, [], h => nfB h
  | .cons m ms, e :: r, h => by
    obtain ⟨h1, h2⟩ := and2 h
    exact Bool.and_eq_true_iff.mpr ⟨(and2 h1).2, chkEs_plain h2⟩
end
section
noncomputable def Both (C : Cfg) (nd : Nat) (env : Env) (X : List Addr) (e : PySem.Expr) (p : EV × TV) : Prop :=
  (∀ l o r o', p.1 l o = some (r, o') → SE C nd env X (eval e env) l o r o') ∧ (∀ l o b o', p.2 l o = some (b, o') → ST C nd env X (isTrue e env (eval e env)) l o b o')
theorem mkT_two {C : Cfg} {nd : Nat} {env : Env} {X : List Addr} {e : PySem.Expr} {f : EV} (K : C.Ok) (hp : isTrue e env (eval e env) = (do let v ← eval e env; standAt e.pos; holding [v] (truthy v)))
    (h : ∀ l o r o', f l o = some (r, o') → SE C nd env X (eval e env) l o r o') : Both C nd env X e (mkT f) := by
  refine ⟨h, fun l o b o' e2 => ?_⟩
  have e2 : obM (f l o) (fun v s' => oaM (truthyA v) fun b => some (b, s')) = some (b, o') := e2
  exact ob e2 fun v o2 hf e2 => oa e2 fun c hc e2 => oq e2 (st_plain K (h _ _ _ _ hf) hc hp)
theorem mkB_two {C : Cfg} {nd : Nat} {env : Env} {X : List Addr} {e : PySem.Expr} {f : TV} (h : ∀ l o b o', f l o = some (b, o') → SE C nd env X (eval e env) l o (.bool b) o') (h2 : ∀ l o b o', f l o = some (b, o') → ST C nd env X (isTrue e env (eval e env)) l o b o') : Both C nd env X e (mkB f) :=
  ⟨fun l o r o' he => by
    have he : obM (f l o) (fun b s' => some (AV.bool b, s')) = some (r, o') := he
    exact ob he fun b o2 hf he => oq he (h _ _ _ _ hf), h2⟩
theorem pr_two {C : Cfg} {nd : Nat} {env : Env} {X : List Addr} {e : PySem.Expr} {f : EV} {g : TV} (h : ∀ l o r o', f l o = some (r, o') → SE C nd env X (eval e env) l o r o') (h2 : ∀ l o b o', g l o = some (b, o') → ST C nd env X (isTrue e env (eval e env)) l o b o') : Both C nd env X e (f, g) := ⟨h, h2⟩
theorem evA_cons {O : Orc} {e e2 : ME} {es2 : MEs} : evA O (.cons e (.cons e2 es2)) = (fun l o => obM ((ev O e).1 l o) fun v o => oaM (truthyA v) fun b => omM b ((evA O (.cons e2 es2)).1 l o) (some (v, o)), fun l o => ozM ((ev O e).2 l o) (fun o => (evA O (.cons e2 es2)).2 l o) (fun o => some (false, o))) := rfl
theorem evO_cons {O : Orc} {e e2 : ME} {es2 : MEs} : evO O (.cons e (.cons e2 es2)) = (fun l o => obM ((ev O e).1 l o) fun v o => oaM (truthyA v) fun b => omM b (some (v, o)) ((evO O (.cons e2 es2)).1 l o), fun l o => ozM ((ev O e).2 l o) (fun o => some (true, o)) (fun o => (evO O (.cons e2 es2)).2 l o)) := rfl
noncomputable def tvs (O : Orc) : MEs → List TV
  | .nil => []
  | .cons e es => (ev O e).2 :: tvs O es
theorem evAll_eq (O : Orc) : ∀ ms : MEs, evAll O ms = allTV (tvs O ms)
  | .nil => rfl
  | .cons e es => by
    show (fun l o => ozM ((ev O e).2 l o) (fun o => evAll O es l o) (fun o => some (false, o))) = fun l o => ozM ((ev O e).2 l o) (fun o => allTV (tvs O es) l o) (fun o => some (false, o))
    rw [evAll_eq O es]
section
variable {C : Cfg} {nd : Nat} {O : Orc}
theorem const_ok {k : AV} {c : Const} : constB k c = true → match c, k with | .none, .none => True | .bool b, .bool c => b = c | .int i, .int j => i = j | .str s, .str t => s = toS t | _, _ => False := by
  intro h
  cases k with
  | none => cases c <;> first | trivial | exact nfB h
  | bool b => cases c <;> first | exact nfB h | exact (eq_of_beq h).symm
  | int i => cases c <;> first | exact nfB h | exact (of_decide_eq_true h).symm
  | str l => cases c <;> first | exact nfB h | exact sEq_ok h
  | _ => exact nfB h
theorem sl_cl (K : C.Ok) (OK : OrcOk C nd O) {e : ME} {kd : KD} {env : Env} {X : List Addr} {v : PySem.Expr} {m : Int} {k : Nat} {p1 p2 p : Pos} (V : EnvOk env X) (n : Nat) (H : ∀ {e2 : PySem.Expr}, chkE O.gls kd e e2 = true → Both C nd env X e2 (ev O e)) (h : (chkE O.gls kd e v).and (decide (m = (n : Int))) = true) :
    Both C nd env X (.Subscript v (.Slice none (some (.Constant (.int m) k p1)) none p2) p) (ev O (.sl e n)) := by
  obtain ⟨h1, h2⟩ := and2 h
  cases of_decide_eq_true h2
  refine mkT_two K rfl fun l o r o' he => ob he fun w o2 hv he => oa he fun t ht he => oi he fun hc hz => ?_
  cases jStr_ok ht
  exact oq hz (se_sl K V ((H h1).1 _ _ _ _ hv) hc.1 hc.2)
mutual
theorem ev_ok (K : C.Ok) (OK : OrcOk C nd O) : ∀ (m : ME) {kd : KD} {env : Env} {X : List Addr} {e : PySem.Expr}, EnvOk env X → (∀ n, env.kindOf n = kd n) → chkE O.gls kd m e = true → Both C nd env X e (ev O m)
  | .c k, kd, env, X, e, V, hk, h => by
    refine vEConstant_el ?_ h
    clear h
    intro c n p q h
    subst q
    exact mkT_two K rfl fun l o r o' he => oq he (se_const (const_ok h))
  | .lv x, kd, env, X, e, V, hk, h => by
    refine vEName_el ?_ h
    clear h
    intro s p q h
    subst q
    simp only [Bool.and_eq_true, Bool.not_eq_true'] at h
    obtain ⟨⟨h1, h2⟩, h3⟩ := h
    have := sEq_ok h1
    subst this
    exact mkT_two K rfl fun l o r o' he => oa he fun v hv he => oq he (se_lv V hv (by rw [hk]; exact okK_ok h2) (debug_no h3))
  | .gl i, kd, env, X, e, V, hk, h => by
    refine vEName_el ?_ h
    clear h
    intro s p q h
    subst q
    cases hq : O.gls[i]? with
    | none => rw [hq] at h; exact nfB h
    | some q =>
      rw [hq] at h
      obtain ⟨h4, h3⟩ := and2 h
      obtain ⟨h1, h2⟩ := and2 h4
      cases sEq_ok h1
      exact mkT_two K rfl fun l o r o' he => oa he fun p hp he => by
        cases hq.symm.trans hp
        exact oq he (se_gl K V (OK.gls i q hq) (by rw [hk]; exact isGlob_ok h2) (debug_no (by simpa using h3)))
  | .tup es, kd, env, X, e, V, hk, h => by
    refine vETuple_el ?_ h
    clear h
    intro els n p q h
    subst q
    obtain ⟨h1, h2⟩ := and2 h
    refine mkT_two K rfl fun l o r o' he => ob he fun vs o2 hv he => oq he ?_
    have S := evs_ok K OK es V hk h1 _ _ _ _ hv
    refine se_tup K V ?_ (by rw [sel_len S]; exact Nat.le_of_lt (Nat.blt_eq.mp h2))
    rw [args_ses (chkEs_plain h1)]
    exact sel_ses S
  | .lst es, kd, env, X, e, V, hk, h => by
    refine vEList_el ?_ h
    clear h
    intro els p q h
    subst q
    obtain ⟨h1, h2⟩ := and2 h
    refine mkT_two K rfl fun l o r o' he => ob he fun vs o2 hv he => oq he ?_
    have S := evs_ok K OK es V hk h1 _ _ _ _ hv
    refine se_lst K V ?_ (by rw [sel_len S]; exact Nat.le_of_lt (Nat.blt_eq.mp h2))
    rw [args_ses (chkEs_plain h1)]
    exact sel_ses S
  | .dic ks es, kd, env, X, e, V, hk, h => by
    refine vEDict_el ?_ h
    clear h
    intro keys vals p q h
    subst q
    cases ks with
    | nil =>
      obtain ⟨e1, h⟩ := and2 h
      obtain ⟨e2, e3⟩ := and2 h
      cases isNil_ok e1
      cases isNil_ok e2
      cases nilE_ok e3
      exact mkT_two K rfl fun l o r o' he => oq he (se_dic0 K V)
    | cons k ks =>
      obtain ⟨g1, g2⟩ := and2 h
      obtain ⟨h1, h2⟩ := and2 g1
      obtain ⟨g3, h5⟩ := and2 g2
      obtain ⟨h3, h4⟩ := and2 g3
      exact mkT_two K rfl fun l o r o' he => ob he fun vs o2 hv he => oq he (se_dic K V (keysB_ok h1) (by simp) (Nat.eq_of_beq_eq_true h3) (Nat.le_of_ble_eq_true h4) (of_decide_eq_true h5) fun P VP => evs_ok K OK es VP hk h2 _ _ _ _ hv)
  | .attr e x, kd, env, X, t, V, hk, h => by
    refine vEAttribute_el ?_ h
    clear h
    intro v a p q h
    subst q
    obtain ⟨g, h3⟩ := and2 h
    obtain ⟨h1, h2⟩ := and2 g
    cases sEq_ok h2
    exact mkT_two K rfl fun l o r o' he => ob he fun w o2 hv he => oa he fun u hu he => oq he (se_attr K OK.cls h3 ((ev_ok K OK e V hk h1).1 _ _ _ _ hv) hu)
  | .sub e i, kd, env, X, t, V, hk, h => by
    refine vESubscript_el ?_ h
    clear h
    intro v a p q h
    subst q
    obtain ⟨g, h3⟩ := and2 h
    obtain ⟨h1, h2⟩ := and2 g
    exact mkT_two K rfl fun l o r o' he => ob he fun w o2 hv he => ob he fun j o3 hj he => oa he fun u hu he => oq he (se_sub K h3 ((ev_ok K OK e V hk h1).1 _ _ _ _ hv) ((ev_ok K OK i V hk h2).1 _ _ _ _ hj) hu)
  | .sl e n, kd, env, X, t, V, hk, h => by
    refine vESubscript_el ?_ h
    clear h
    intro v s p q h
    subst q
    refine vESlice_el ?_ h
    clear h
    intro lo up st p2 q h
    subst q
    have e0 := (and2 h).1
    replace h := (and2 h).2
    obtain ⟨e1, e2⟩ := and2 e0
    cases isNone_ok e1
    cases isNone_ok e2
    cases up with
    | none => exact nfB h
    | some c =>
    refine vEConstant_el ?_ h
    clear h
    intro m k p1 q h
    subst q
    cases m with
    | int m => exact sl_cl K OK V n (ev_ok K OK e V hk) h
    | _ => exact nfB h
  | .call f as, kd, env, X, t, V, hk, h => by
    refine vECall_el ?_ h
    clear h
    intro fe args kws p q h
    subst q
    have e1 := (and2 h).1
    replace h := (and2 h).2
    cases isNil_ok e1
    obtain ⟨g, h3⟩ := and2 h
    obtain ⟨h1, h2⟩ := and2 g
    cases hs : isNm fe with
    | none => rw [hs] at h1; exact nfB h1
    | some s =>
      obtain ⟨p1, rfl⟩ := isNm_ok hs
      refine mkT_two K rfl fun l o r o' he => ob he fun w o2 hv he => oa he fun i hi he => ob he fun vs o3 hvs hz => ?_
      cases jG_ok hi
      have S := evs_ok K OK as V hk h3 _ _ _ _ hvs
      obtain ⟨c1, c2⟩ := OK.call _ _ _ _ _ hz
      exact se_call K V (chkEs_plain h3) ((ev_ok K OK f V hk h2).1 _ _ _ _ hv) (sel_ses S) (sel_nil S) c2 c1
  | .mcall b x as, kd, env, X, t, V, hk, h => by
    refine vECall_el ?_ h
    clear h
    intro fe args kws p q h
    subst q
    have e1 := (and2 h).1
    replace h := (and2 h).2
    cases isNil_ok e1
    refine vEAttribute_el ?_ h
    clear h
    intro be nm ap q h
    subst q
    obtain ⟨g1, g2⟩ := and2 h
    obtain ⟨g3, g4⟩ := and2 g1
    obtain ⟨h1, h2⟩ := and2 g3
    obtain ⟨h3, h4⟩ := and2 g4
    obtain ⟨h5, h6⟩ := and2 g2
    have h6 := Nat.blt_eq.mp h6
    cases sEq_ok h2
    refine mkT_two K rfl fun l o r o' he => ob he fun w o2 hv he => oe he (fun i hi he => ob he fun vs o3 hvs he => oa he fun oc ho he => oa he fun xs hx hz => ?_) fun he => ob he fun c ks hi he => ou he fun hd he => oa he fun g hg he => ob he fun vs o3 hvs he => ?_
    · refine oa hi fun j hj hi => oa hi fun oc1 ho1 hi => oa hi fun xs1 hx1 hi => ?_
      cases jLst_ok hx
      cases jLst_ok hx1
      cases Option.some.inj hi
      cases jRef_ok hj
      have S := evs_ok K OK as V hk h5 _ _ _ _ hvs
      exact se_lmeth K V h3 (chkEs_plain h5) h4 h6 ((ev_ok K OK b V hk h1).1 _ _ _ _ hv) ho1 (sel_ses S) (sel_nil S) ho hz
    · have S := evs_ok K OK as V hk h5 _ _ _ _ hvs
      exact se_imeth K V OK h3 (chkEs_plain h5) h4 h6 ((ev_ok K OK b V hk h1).1 _ _ _ _ hv) (inst_of hi hd) hg (sel_ses S) (sel_nil S) he
  | .cmp op a b, kd, env, X, t, V, hk, h => by
    refine vECompare_el ?_ h
    clear h
    intro le ops rs p q h
    subst q
    have e1 := (and2 h).1
    replace h := (and2 h).2
    cases of_decide_eq_true e1
    refine oneL_el (fun re q2 h => ?_) h
    subst q2
    obtain ⟨h1, g⟩ := and2 h
    obtain ⟨h2, h3⟩ := and2 g
    refine mkB_two (fun l o r o' hc => ?_) fun l o r o' he => ?_
    · exact (ob hc fun u o3 hu hc => ob hc fun w o4 hw hc => oa hc fun q hq hc => oq (P := fun b o2 => SE C nd env X _ l o (.bool b) o2) hc (se_cmp K h3 ((ev_ok K OK a V hk h1).1 _ _ _ _ hu) ((ev_ok K OK b V hk h2).1 _ _ _ _ hw) hq))
    · exact ob he fun u o3 hu he => ob he fun w o4 hw he => oa he fun q hq he => oq he (st_cmp K h3 ((ev_ok K OK a V hk h1).1 _ _ _ _ hu) ((ev_ok K OK b V hk h2).1 _ _ _ _ hw) hq)
  | .and es, kd, env, X, t, V, hk, h => by
    refine vEBoolOp_el ?_ h
    clear h
    intro op vs p q h
    subst q
    have e1 := (and2 h).1
    replace h := (and2 h).2
    cases of_decide_eq_true e1
    obtain ⟨h, h0⟩ := and2 h
    have hne : vs ≠ [] := fun e => by subst e; exact nfB h0
    obtain ⟨a1, a2⟩ := evA_ok K OK es V hk h hne
    exact ⟨fun l o r o' he => a1 _ _ _ _ he _, fun l o r o' he => a2 _ _ _ _ he⟩
  | .or es, kd, env, X, t, V, hk, h => by
    refine vEBoolOp_el ?_ h
    clear h
    intro op vs p q h
    subst q
    have e1 := (and2 h).1
    replace h := (and2 h).2
    cases of_decide_eq_true e1
    obtain ⟨h, h0⟩ := and2 h
    have hne : vs ≠ [] := fun e => by subst e; exact nfB h0
    obtain ⟨a1, a2⟩ := evO_ok K OK es V hk h hne
    exact ⟨fun l o r o' he => a1 _ _ _ _ he _, fun l o r o' he => a2 _ _ _ _ he⟩
  | .not a, kd, env, X, t, V, hk, h => by
    refine vEUnaryOp_el ?_ h
    clear h
    intro op ae p q h
    subst q
    have e1 := (and2 h).1
    replace h := (and2 h).2
    cases of_decide_eq_true e1
    obtain ⟨a1, a2⟩ := ev_ok K OK a V hk h
    exact pr_two (fun l o r o' he => ob he fun v o2 hv he => oa he fun b hb he => oq he (se_not K (a1 _ _ _ _ hv) hb)) fun l o r o' he => ob he fun v o2 hv he => oq he (st_not (a2 _ _ _ _ hv))
  | .neg a, kd, env, X, t, V, hk, h => by
    refine vEUnaryOp_el ?_ h
    clear h
    intro op ae p q h
    subst q
    have e1 := (and2 h).1
    replace h := (and2 h).2
    cases of_decide_eq_true e1
    obtain ⟨a1, a2⟩ := ev_ok K OK a V hk h
    refine mkT_two K rfl fun l o r o' he => ob he fun v o2 hv he => oa he fun i hi hz => ?_
    cases jInt_ok hi
    exact oq hz (se_neg (a1 _ _ _ _ hv))
  | .bin op a b, kd, env, X, t, V, hk, h => by
    refine vEBinOp_el ?_ h
    clear h
    intro le op' re p q h
    subst q
    obtain ⟨g, h2⟩ := and2 h
    obtain ⟨g0, h1⟩ := and2 g
    cases of_decide_eq_true g0
    exact mkT_two K rfl fun l o r o' he => ob he fun u o3 hu he => ob he fun w o4 hw he => oa he fun q hq he => oq he (se_bin K V ((ev_ok K OK a V hk h1).1 _ _ _ _ hu) ((ev_ok K OK b V hk h2).1 _ _ _ _ hw) hq)
  | .ife t a b, kd, env, X, e, V, hk, h => by
    refine vEIfExp_el ?_ h
    clear h
    intro te ae be p q h
    subst q
    obtain ⟨g, h3⟩ := and2 h
    obtain ⟨h1, h2⟩ := and2 g
    obtain ⟨t1, t2⟩ := ev_ok K OK t V hk h1
    obtain ⟨a1, a2⟩ := ev_ok K OK a V hk h2
    obtain ⟨b1, b2⟩ := ev_ok K OK b V hk h3
    exact pr_two (fun l o r o' he => oz he (fun o2 ht he => se_ife (t2 _ _ _ _ ht) (fun _ => a1 _ _ _ _ he) (fun e => nfB e.symm)) (fun o2 ht he => se_ife (t2 _ _ _ _ ht) nfB (fun _ => b1 _ _ _ _ he)))
      fun l o r o' he => oz he (fun o2 ht he => st_ife (t2 _ _ _ _ ht) (fun _ => a2 _ _ _ _ he) (fun e => nfB e.symm)) (fun o2 ht he => st_ife (t2 _ _ _ _ ht) nfB (fun _ => b2 _ _ _ _ he))
  | .comp elt tgt it conds, kd, env, X, e, V, hk, h => by
    refine vEListComp_el ?_ h
    clear h
    intro el gens scope p q h
    subst q
    refine oneL_el (fun g q2 h => ?_) h
    subst q2
    obtain ⟨e2, h⟩ := and2 h
    obtain ⟨t, iter, ifs, ia⟩ := g
    cases of_decide_eq_true e2
    obtain ⟨g1, g2⟩ := and2 h
    obtain ⟨g3, h3⟩ := and2 g1
    obtain ⟨h1, h2⟩ := and2 g3
    obtain ⟨g4, g5⟩ := and2 g2
    obtain ⟨h4, h5⟩ := and2 g4
    obtain ⟨h6, h7⟩ := and2 g5
    have CS := scopeB_ok hk h1
    refine mkT_two K rfl fun l o r o' he => ob he fun v o2 hv he => oa he fun src hs he => oa he fun o3 hg he => oq he ?_
    rw [evAll_eq] at hg
    refine se_comp K V CS h2 ((ev_ok K OK it V hk h3).1 _ _ _ _ hv) hs (fun Lc => ⟨tgtB_ok (kdC_ok V hk) h4, fun x hx => ?_⟩) (fun Lc P VP => evC_ok K OK conds VP (kdC_ok V hk) h7) (fun Lc P VP => (ev_ok K OK elt VP (kdC_ok V hk) h6).1) hg
    rw [kdC_ok V hk]
    exact isLoc_ok (List.all_eq_true.mp h5 x hx)
theorem evs_ok (K : C.Ok) (OK : OrcOk C nd O) : ∀ (ms : MEs) {kd : KD} {env : Env} {X : List Addr} {es : List PySem.Expr}, EnvOk env X → (∀ n, env.kindOf n = kd n) → chkEs O.gls kd ms es = true → ∀ l o rs o', evs O ms l o = some (rs, o') → SEL C nd env X es l o rs o'
  | .nil, kd, env, X, es, V, hk, h, l, o, rs, o', he => by
    cases isNil_ok h
    cases he
    exact ⟨rfl, rfl⟩
  | .cons m ms, kd, env, X, es, V, hk, h, l, o, rs, o', he => by
    cases es with
    | nil => exact nfB h
    | cons e r =>
      obtain ⟨h0, h2⟩ := and2 h
      have he : obM ((ev O m).1 l o) (fun v o => obM (evs O ms l o) fun vs o => some (v :: vs, o)) = some (rs, o') := he
      exact ob he fun v o2 hv he => ob he fun vs o3 hvs he => oq he ⟨v, vs, o2, rfl, (ev_ok K OK m V hk (and2 h0).1).1 _ _ _ _ hv, evs_ok K OK ms V hk h2 _ _ _ _ hvs⟩
theorem evA_ok (K : C.Ok) (OK : OrcOk C nd O) : ∀ (ms : MEs) {kd : KD} {env : Env} {X : List Addr} {es : List PySem.Expr}, EnvOk env X → (∀ n, env.kindOf n = kd n) → chkEs O.gls kd ms es = true → es ≠ [] →
    (∀ l o r o', (evA O ms).1 l o = some (r, o') → ∀ pos, SB C nd env X pos .And (evalEach es env) l o r o') ∧ (∀ l o b o', (evA O ms).2 l o = some (b, o') → ST C nd env X (allTrue .And es env) l o b o')
  | .nil, kd, env, X, es, V, hk, h, hne => by
    exact absurd (isNil_ok h) hne
  | .cons m .nil, kd, env, X, es, V, hk, h, hne => by
    cases es with
    | nil => exact nfB h
    | cons e r =>
      obtain ⟨h0, h2⟩ := and2 h
      cases r with
      | cons => exact nfB h2
      | nil =>
        obtain ⟨m1, m2⟩ := ev_ok K OK m V hk (and2 h0).1
        refine ⟨fun l o r o' he pos => sb_one (m1 _ _ _ _ he), fun l o b o' he => ?_⟩
        refine st_all_more (m2 _ _ _ _ he) (fun e => ⟨rfl, rfl⟩) fun e => ?_
        have e : b = true := e
        subst e
        exact st_all_nil
  | .cons m (.cons m2 ms), kd, env, X, es, V, hk, h, hne => by
    cases es with
    | nil => exact nfB h
    | cons e r =>
      obtain ⟨h0, h2⟩ := and2 h
      cases r with
      | nil => exact nfB h2
      | cons e2 r2 =>
        obtain ⟨q1, q2⟩ := ev_ok K OK m V hk (and2 h0).1
        obtain ⟨r1, r3⟩ := evA_ok K OK (.cons m2 ms) (es := e2 :: r2) V hk h2 (by simp)
        rw [evA_cons]
        dsimp only
        refine ⟨fun l o r o' he pos => ob he fun v o2 hv he => oa he fun b hb he => om he (fun q he => ?_) fun q he => ?_, fun l o b o' he => oz he (fun o2 hv he => ?_) fun o2 hv he => ?_⟩
        · subst q
          exact sb_more K (q1 _ _ _ _ hv) hb (fun e => by cases e) fun _ => r1 _ _ _ _ he pos
        · subst q
          exact oq he (sb_more K (q1 _ _ _ _ hv) hb (fun _ => ⟨rfl, rfl⟩) fun e => by cases e)
        · exact st_all_more (q2 _ _ _ _ hv) (fun e => by cases e) fun _ => r3 _ _ _ _ he
        · exact oq he (st_all_more (q2 _ _ _ _ hv) (fun _ => ⟨rfl, rfl⟩) fun e => by cases e)
theorem evO_ok (K : C.Ok) (OK : OrcOk C nd O) : ∀ (ms : MEs) {kd : KD} {env : Env} {X : List Addr} {es : List PySem.Expr}, EnvOk env X → (∀ n, env.kindOf n = kd n) → chkEs O.gls kd ms es = true → es ≠ [] →
    (∀ l o r o', (evO O ms).1 l o = some (r, o') → ∀ pos, SB C nd env X pos .Or (evalEach es env) l o r o') ∧ (∀ l o b o', (evO O ms).2 l o = some (b, o') → ST C nd env X (allTrue .Or es env) l o b o')
  | .nil, kd, env, X, es, V, hk, h, hne => by
    exact absurd (isNil_ok h) hne
  | .cons m .nil, kd, env, X, es, V, hk, h, hne => by
    cases es with
    | nil => exact nfB h
    | cons e r =>
      obtain ⟨h0, h2⟩ := and2 h
      cases r with
      | cons => exact nfB h2
      | nil =>
        obtain ⟨m1, m2⟩ := ev_ok K OK m V hk (and2 h0).1
        refine ⟨fun l o r o' he pos => sb_one (m1 _ _ _ _ he), fun l o b o' he => ?_⟩
        refine st_all_more (m2 _ _ _ _ he) (fun e => ⟨rfl, rfl⟩) fun e => ?_
        have e : b = false := e
        subst e
        exact st_all_nil
  | .cons m (.cons m2 ms), kd, env, X, es, V, hk, h, hne => by
    cases es with
    | nil => exact nfB h
    | cons e r =>
      obtain ⟨h0, h2⟩ := and2 h
      cases r with
      | nil => exact nfB h2
      | cons e2 r2 =>
        obtain ⟨q1, q2⟩ := ev_ok K OK m V hk (and2 h0).1
        obtain ⟨r1, r3⟩ := evO_ok K OK (.cons m2 ms) (es := e2 :: r2) V hk h2 (by simp)
        rw [evO_cons]
        dsimp only
        refine ⟨fun l o r o' he pos => ob he fun v o2 hv he => oa he fun b hb he => om he (fun q he => ?_) fun q he => ?_, fun l o b o' he => oz he (fun o2 hv he => ?_) fun o2 hv he => ?_⟩
        · subst q
          exact oq he (sb_more K (q1 _ _ _ _ hv) hb (fun _ => ⟨rfl, rfl⟩) fun e => by cases e)
        · subst q
          exact sb_more K (q1 _ _ _ _ hv) hb (fun e => by cases e) fun _ => r1 _ _ _ _ he pos
        · exact oq he (st_all_more (q2 _ _ _ _ hv) (fun _ => ⟨rfl, rfl⟩) fun e => by cases e)
        · exact st_all_more (q2 _ _ _ _ hv) (fun e => by cases e) fun _ => r3 _ _ _ _ he
theorem evC_ok (K : C.Ok) (OK : OrcOk C nd O) : ∀ (ms : MEs) {kd : KD} {env : Env} {X : List Addr} {es : List PySem.Expr}, EnvOk env X → (∀ n, env.kindOf n = kd n) → chkEs O.gls kd ms es = true → CondsR C nd env X es (tvs O ms)
  | .nil, kd, env, X, es, V, hk, h => by
    cases isNil_ok h
    rfl
  | .cons m ms, kd, env, X, es, V, hk, h => by
    cases es with
    | nil => exact nfB h
    | cons e r =>
      obtain ⟨h0, h2⟩ := and2 h
      exact ⟨_, _, rfl, (ev_ok K OK m V hk (and2 h0).1).2, evC_ok K OK ms V hk h2⟩
end
end
end
section
inductive SwK where
  | no
  | two
noncomputable def two2 (l : List PySem.Expr) : Option (PySem.Expr × PySem.Expr) := match l with
  | [] => none
  | a :: r => match r with
    | [] => none
    | b :: r => match r with
      | [] => some (a, b)
      | _ :: _ => none
theorem two2_ok {l : List PySem.Expr} {a b : PySem.Expr} (h : two2 l = some (a, b)) : l = [a, b] := by
  match l, h with
  | [], h => exact nsM h
  | [_], h => exact nsM h
  | [_, _], h => cases h; rfl
  | _ :: _ :: _ :: _, h => exact nsM h
noncomputable def swB (kd : KD) (ts : List PySem.Expr) (v : PySem.Expr) : Option SwK :=
  oeM (isTup v) (fun q => obM (two2 ts) fun t1 t2 => obM (two2 q.1) fun a b => oaM (isNm t1) fun x => oaM (isNm t2) fun y => omM ((isLoc (kd x)).and (isLoc (kd y)))
    (otM (((((plainE a).and (plainE b)).and (t2.pos.line == t1.pos.line)).and ((x == y).not)).and (((foldedForSure 8 a && foldedForSure 8 b).not).and ((constantsAlone 8 a && constantsAlone 8 b).not))) (some .two))
    (otM ((plainE a).and (plainE b)) (some .no))) (some .no)
noncomputable def swN (n : Nat) (k : Option SwK) : Bool := match k with
  | some k => match k with
    | .no => true
    | .two => Nat.beq n 2
  | none => false
theorem swapped_not {x y : PySem.Str} {p1 p2 p3 p4 : Pos} {k1 k2 : Nat} {a b : PySem.Expr} {env : Env} (ha : plainE a = true) (hb : plainE b = true) (h : isLoc (env.kindOf x) = false ∨ isLoc (env.kindOf y) = false) :
    swappedStores [.Tuple [.Name x p1, .Name y p2] k1 p3] (.Tuple [a, b] k2 p4) env = pure none := by
  have nl : ∀ {k : Option NameKind}, isLoc k = false → (k == some .local) = false := fun {k} h => by
    cases k with
    | none => rfl
    | some k => cases k <;> first | rfl | simp [isLoc] at h
  have e2 : ((PySem.Expr.Name x p1).pos.line) = p1.line := rfl
  have e3 : ∀ p : Pos, ((PySem.Expr.Name x p).pos.line) = p.line := fun _ => rfl
  have hl : ([PySem.Expr.Name x p1, PySem.Expr.Name y p2].filterMap fun
    | .Name id pos => if env.kindOf id == some .local && pos.line == p1.line then some id else none
    | _ => none).length ≠ 2 := by
    rcases h with h | h
    · simp only [List.filterMap_cons, List.filterMap_nil, nl h, Bool.false_and, Bool.false_eq_true, if_false]
      split <;> simp
    · simp only [List.filterMap_cons, List.filterMap_nil, nl h, Bool.false_and, Bool.false_eq_true, if_false]
      split <;> simp
  unfold swappedStores
  simp only [List.length_cons, List.length_nil, List.head?_cons, Option.map_some, Option.getD_some, e2]
  have h3 : (([PySem.Expr.Name x p1, PySem.Expr.Name y p2].filterMap fun
    | .Name id pos => if env.kindOf id == some .local && pos.line == p1.line then some id else none
    | _ => none).length != 2) = true := by simpa using hl
  split
  · rfl
  · split
    · rfl
    · rw [if_pos (by
        rw [Bool.or_eq_true]
        exact .inl h3)]
theorem notTup_of {v : PySem.Expr} (h : isTup v = none) : notTup v = true := by
  cases v <;> first | rfl | cases h
theorem bindGo_two {x y : Nm} {vs : List AV} {l l' : Loc} (h : bindGo [x, y] vs l = some l') : ∃ v1 v2, vs = [v1, v2] ∧ l' = stv (stv l x v1) y v2 := by
  match vs, h with
  | [], h => exact nsM h
  | [_], h => exact nsM h
  | [a, b], h => exact ⟨a, b, rfl, (Option.some.inj h).symm⟩
  | _ :: _ :: _ :: _, h => exact nsM h
theorem asgT_ok {C : Cfg} {nd : Nat} {env : Env} {X : List Addr} {kd : KD} {l l' : Loc} {o o' : Objs} {xs : List Nm} {vs : List AV} {ts : List PySem.Expr} {v : PySem.Expr} {k : Nat} {p pos : Pos} (K : C.Ok) (V : EnvOk env X) (hk : ∀ n, env.kindOf n = kd n) (N : NmExps env ts xs) (h3 : notComp v = true)
    (h4 : swN xs.length (swB kd ts v) = true) (S : SE C nd env X (eval v env) l o (.tup vs) o') (hb : bindGo xs vs l = some l') : SS C nd env X (exec (.Assign [.Tuple ts k p] v pos) env) l o .next l' o' := by
  obtain ⟨w, hs⟩ : ∃ w, swB kd ts v = some w := by
    cases hs : swB kd ts v with
    | none => rw [hs] at h4; exact nfB h4
    | some w => exact ⟨w, rfl⟩
  rw [hs] at h4
  refine oee hs (fun r hv hs => ob hs fun t1 t2 ht hs => ob hs fun a b hab hs => oa hs fun x hx hs => oa hs fun y hy hs => ?_) fun hv hs => ss_asgT K V N h3 (swapped_nt (notTup_of hv)) S hb
  · cases two2_ok ht
    have hv := isTup_ok hv
    rw [two2_ok hab] at hv
    subst hv
    obtain ⟨p1, rfl⟩ := isNm_ok hx
    obtain ⟨p2, rfl⟩ := isNm_ok hy
    refine om hs (fun hl hs => ot hs fun hc hs => ?_) fun hl hs => ot hs fun hp hs => ?_
    · cases hs
      obtain ⟨l1, l2⟩ := and2 hl
      obtain ⟨c1, c2⟩ := and2 hc
      obtain ⟨c3, c4⟩ := and2 c1
      obtain ⟨c5, c6⟩ := and2 c3
      obtain ⟨c7, c8⟩ := and2 c5
      obtain ⟨c9, c10⟩ := and2 c2
      obtain ⟨x1, xs1, q1, rfl, hx2, _, y1, ys1, q2, rfl, hy2, _, hz⟩ := N
      cases hz
      cases hx2
      cases hy2
      obtain ⟨v1, v2, rfl, rfl⟩ := bindGo_two hb
      have hx := hk _ ▸ isLoc_ok l1
      have hy := hk _ ▸ isLoc_ok l2
      exact ss_swap K V hx hy (by rw [← beq_toS]; exact bnot_eq c4) h3 (swapped_two V.kind c7 c8 hx hy c6 (bnot_eq c4) (bnot_eq c9) (bnot_eq c10)) S
    · refine ss_asgT K V N h3 (swapped_not (and2 hp).1 (and2 hp).2 ?_) S hb
      rw [hk, hk]
      cases h3 : isLoc (kd x) with
      | false => exact .inl rfl
      | true =>
        rw [h3] at hl
        exact .inr hl
noncomputable def someB {α : Type} (x : Option α) (k : α → Bool) : Bool := Option.rec false k x
theorem nmB_el {e : PySem.Expr} {k : PySem.Str → Bool} {P : Prop} (H : ∀ s p, e = .Name s p → k s = true → P) (h : someB (isNm e) k = true) : P := by
  cases hn : isNm e with
  | none => rw [hn] at h; exact nfB h
  | some n =>
    rw [hn] at h
    obtain ⟨p, hp⟩ := isNm_ok hn
    exact H n p hp h
theorem tupB_el {e : PySem.Expr} {k : List PySem.Expr × Nat × Pos → Bool} {P : Prop} (H : ∀ q, e = .Tuple q.1 q.2.1 q.2.2 → k q = true → P) (h : someB (isTup e) k = true) : P := by
  cases hn : isTup e with
  | none => rw [hn] at h; exact nfB h
  | some n =>
    rw [hn] at h
    exact H n (isTup_ok hn) h
mutual
noncomputable def chkS (gl : List (Nm × AV)) : KD → MS → Stmt → Bool
  | kd, .expr e, s => vSExpr s fun v _ => (chkE gl kd e v).and (notComp v)
  | kd, .asg x e, s => vSAssign s fun ts v _ => oneL ts fun t => someB (isNm t) fun n => (((sEq n x).and (okK (kd n))).and (chkE gl kd e v)).and ((notComp v).or (vEListComp v fun _ _ sc pos => ((isLoc (kd n)).and (t.pos.line == pos.line)).and ((sc.names.any fun q => q.1 == n && (q.2 == .local || q.2 == .cell)).not)))
  | kd, .asgT xs e, s => vSAssign s fun ts v _ => oneL ts fun t => someB (isTup t) fun q => (((namesB kd q.1 xs).and (chkE gl kd e v)).and (notComp v)).and (swN xs.length (swB kd q.1 v))
  | kd, .asgA o x e, s => vSAssign s fun ts v _ => oneL ts fun t => vEAttribute t fun c n _ => (((chkE gl kd e v).and (notComp v)).and (chkE gl kd o c)).and (sEq n x)
  | kd, .asgS o i e, s => vSAssign s fun ts v _ => oneL ts fun t => vESubscript t fun c j _ => (((chkE gl kd e v).and (notComp v)).and (chkE gl kd o c)).and (chkE gl kd i j)
  | kd, .ifS t a b, s => vSIf s fun t' a' b' _ => ((chkE gl kd t t').and (chkSs gl kd a a')).and (chkSs gl kd b b')
  | kd, .whileS t b, s => vSWhile s fun t' b' els _ => (isNil els).and ((chkE gl kd t t').and (chkSs gl kd b b'))
  | kd, .forS xs it b, s => vSFor s fun t iter b' els _ => (isNil els).and ((((tgtB kd t xs).and (plainE iter)).and (chkE gl kd it iter)).and (chkSs gl kd b b'))
  | kd, .forE xs it b, s => vSFor s fun t it2 b' els _ => (isNil els).and (vECall it2 fun f args kws _ => (isNil kws).and (oneL args fun iter => someB (isTup t) fun _ => someB (isNm f) fun n => ((((tgtB kd t xs).and (plainE iter)).and (chkE gl kd it iter)).and (chkSs gl kd b b')).and ((sEq n [101, 110, 117, 109, 101, 114, 97, 116, 101]).and (isGlob (kd n)))))
  | kd, .forR x it b, s => vSFor s fun t it2 b' els _ => (isNil els).and (vECall it2 fun f args kws _ => (isNil kws).and (oneL args fun iter => someB (isNm t) fun y => someB (isNm f) fun n => (((((sEq y x).and (okK (kd y))).and (plainE iter)).and (chkE gl kd it iter)).and (chkSs gl kd b b')).and ((sEq n [114, 97, 110, 103, 101]).and (isGlob (kd n)))))
  | kd, .ret e, s => vSReturn s fun v _ => someB v fun v => chkE gl kd e v
  | kd, .tryS b, s => vSTry s fun b' hs els fin _ => (isNil els).and ((isNil fin).and ((isNil hs).not.and (chkSs gl kd b b')))
  | _, .fail, _ => true
noncomputable def chkSs (gl : List (Nm × AV)) : KD → MSs → List Stmt → Bool
  | _, .nil, ss => isNil ss
  | kd, .cons m ms, ss => match ss with
    | s :: r => (chkS gl kd m s).and (chkSs gl kd ms r)
    | [] => false
end
structure EnOk (C : Cfg) : Prop where
  en : GlobIs C [101, 110, 117, 109, 101, 114, 97, 116, 101] (.g 57)
  rn : GlobIs C [114, 97, 110, 103, 101] (.g 58)
  g57 : C.gval 57 = .type "enumerate"
  g58 : C.gval 58 = .type "range"
theorem LC_only {gl : List (Nm × AV)} {kd : KD} {e : ME} {a : PySem.Expr} {b : List Comprehension} {c : Scope} {d : Pos} (h : chkE gl kd e (.ListComp a b c d) = true) : ∃ x y z w, e = .comp x y z w := by
  cases e with
  | comp x y z w => exact ⟨x, y, z, w, rfl⟩
  | _ => exact nfB h
section
variable {C : Cfg} {nd : Nat} {O : Orc}
mutual
theorem exS_ok (K : C.Ok) (OK : OrcOk C nd O) (EN : EnOk C) : ∀ (m : MS) {kd : KD} {env : Env} {X : List Addr} {st : Stmt}, EnvOk env X → (∀ n, env.kindOf n = kd n) → chkS O.gls kd m st = true → ∀ l o fl l' o', exS O m l o = some (fl, l', o') → SS C nd env X (exec st env) l o fl l' o'
  | .expr e, kd, env, X, st, V, hk, h, l, o, fl, l', o', he => by
    refine vSExpr_el (fun v p q h => ?_) h
    subst q
    have he : obM ((ev O e).1 l o) (fun _ o => some (FL.next, l, o)) = some (fl, l', o') := he
    exact ob he fun w o2 hv he => oq3 he (ss_expr V (and2 h).2 ((ev_ok K OK e V hk (and2 h).1).1 _ _ _ _ hv))
  | .asg x e, kd, env, X, st, V, hk, h, l, o, fl, l', o', he => by
    refine vSAssign_el (fun ts v p q h => oneL_el (fun t q2 h => nmB_el (fun n p1 q3 h => ?_) h) h) h
    subst q3 q2 q
    obtain ⟨g1, h4⟩ := and2 h
    obtain ⟨g2, h3⟩ := and2 g1
    obtain ⟨h1, h2⟩ := and2 g2
    cases sEq_ok h1
    have he : obM ((ev O e).1 l o) (fun v o => some (FL.next, stv l x v, o)) = some (fl, l', o') := he
    refine ob he fun w o2 hv he => oq3 he ?_
    cases hc : notComp v with
    | true => exact ss_asg V (by rw [hk]; exact okK_ok h2) hc ((ev_ok K OK e V hk h3).1 _ _ _ _ hv)
    | false =>
      rw [hc] at h4
      refine vEListComp_el (fun el gens sc pos q h4 => ?_) (show (vEListComp v fun _ _ sc pos => ((isLoc (kd (toS x))).and (p1.line == pos.line)).and ((sc.names.any fun q => q.1 == toS x && (q.2 == .local || q.2 == .cell)).not)) = true from h4)
      subst q
      obtain ⟨h5, h7⟩ := and2 h4
      obtain ⟨h5, h6⟩ := and2 h5
      have hx : env.kindOf (toS x) = some .local := by rw [hk]; exact isLoc_ok h5
      obtain ⟨elt, tgt, it, conds, rfl⟩ := LC_only h3
      refine vEListComp_el (fun el' gens' scope p' q h3 => oneL_el (fun g q2 h3 => ?_) h3) h3
      cases q
      subst q2
      obtain ⟨e2, h3⟩ := and2 h3
      obtain ⟨t', iter, ifs, ia⟩ := g
      cases of_decide_eq_true e2
      obtain ⟨f1, f2⟩ := and2 h3
      obtain ⟨f3, g3⟩ := and2 f1
      obtain ⟨g1, g2⟩ := and2 f3
      obtain ⟨f4, f5⟩ := and2 f2
      obtain ⟨g4, g5⟩ := and2 f4
      obtain ⟨g6, g7⟩ := and2 f5
      have CS := scopeB_ok hk g1
      have hv : obM ((ev O it).1 l o) (fun v o => oaM (srcOf o v) fun src => oaM (compGo src tgt (evAll O conds) (ev O elt).1 o.length l fuelC 0 (rmv ([46, 48] :: tgt) l) (o ++ [.list []])) fun o' => some (.ref o.length, o')) = some (w, o2) := hv
      refine ob hv fun v2 o3 hv2 hv => oa hv fun src hs hv => oa hv fun o4 hg hv => oq (P := fun w o2 => SS C nd env X _ l o .next (stv l x w) o2) hv ?_
      rw [evAll_eq] at hg
      refine ss_asgC K V hx (swaps_yes V hx h6 (bnot_eq h7)) CS g2 ((ev_ok K OK it V hk g3).1 _ _ _ _ hv2) hs (fun Lc => ⟨tgtB_ok (kdC_ok V hk) g4, fun x hx => ?_⟩) (fun Lc P VP => evC_ok K OK conds VP (kdC_ok V hk) g7) (fun Lc P VP => (ev_ok K OK elt VP (kdC_ok V hk) g6).1) hg
      rw [kdC_ok V hk]
      exact isLoc_ok (List.all_eq_true.mp g5 x hx)
  | .asgT xs e, kd, env, X, st, V, hk, h, l, o, fl, l', o', he => by
    refine vSAssign_el (fun ts v p q h => oneL_el (fun t q2 h => tupB_el (fun r q3 h => ?_) h) h) h
    subst q3 q2 q
    obtain ⟨g1, h4⟩ := and2 h
    obtain ⟨g2, h3⟩ := and2 g1
    obtain ⟨h1, h2⟩ := and2 g2
    have he : obM ((ev O e).1 l o) (fun v o => oaM (jTup v) fun vs => oaM (bindGo xs vs l) fun l => some (FL.next, l, o)) = some (fl, l', o') := he
    refine ob he fun w o2 hv he => oa he fun vs hj he => oa he fun l2 hb hz => ?_
    cases jTup_ok hj
    exact oq3 hz (asgT_ok K V hk (namesB_ok hk h1) h3 h4 ((ev_ok K OK e V hk h2).1 _ _ _ _ hv) hb)
  | .asgA c x e, kd, env, X, st, V, hk, h, l, o, fl, l', o', he => by
    refine vSAssign_el (fun ts v p q h => oneL_el (fun t q2 h => vEAttribute_el (fun ce n p1 q3 h => ?_) h) h) h
    subst q3 q2 q
    obtain ⟨g1, h4⟩ := and2 h
    obtain ⟨g2, h3⟩ := and2 g1
    obtain ⟨h1, h2⟩ := and2 g2
    cases sEq_ok h4
    have he : obM ((ev O e).1 l o) (fun v o => obM ((ev O c).1 l o) fun u o => oaM (setAtt O.fl o u x v) fun o => some (FL.next, l, o)) = some (fl, l', o') := he
    exact ob he fun w o2 hv he => ob he fun u o3 hu he => oa he fun o4 hs he => oq3 he (ss_asgA K OK.cls V h2 ((ev_ok K OK e V hk h1).1 _ _ _ _ hv) ((ev_ok K OK c V hk h3).1 _ _ _ _ hu) hs)
  | .asgS c i e, kd, env, X, st, V, hk, h, l, o, fl, l', o', he => by
    refine vSAssign_el (fun ts v p q h => oneL_el (fun t q2 h => vESubscript_el (fun ce j p1 q3 h => ?_) h) h) h
    subst q3 q2 q
    obtain ⟨g1, h4⟩ := and2 h
    obtain ⟨g2, h3⟩ := and2 g1
    obtain ⟨h1, h2⟩ := and2 g2
    have he : obM ((ev O e).1 l o) (fun v o => obM ((ev O c).1 l o) fun u o => obM ((ev O i).1 l o) fun j o => oaM (setSub o u j v) fun o => some (FL.next, l, o)) = some (fl, l', o') := he
    exact ob he fun w o2 hv he => ob he fun u o3 hu he => ob he fun jv o4 hj he => oa he fun o5 hs he => oq3 he (ss_asgS K V h2 ((ev_ok K OK e V hk h1).1 _ _ _ _ hv) ((ev_ok K OK c V hk h3).1 _ _ _ _ hu) ((ev_ok K OK i V hk h4).1 _ _ _ _ hj) hs)
  | .ifS t a b, kd, env, X, st, V, hk, h, l, o, fl, l', o', he => by
    refine vSIf_el (fun te ae be p q h => ?_) h
    subst q
    obtain ⟨g1, h3⟩ := and2 h
    obtain ⟨h1, h2⟩ := and2 g1
    have he : ozM ((ev O t).2 l o) (fun o => exSs O a l o) (fun o => exSs O b l o) = some (fl, l', o') := he
    exact oz he (fun o2 ht he => ss_if ((ev_ok K OK t V hk h1).2 _ _ _ _ ht) (fun _ => exSs_ok K OK EN a V hk h2 _ _ _ _ _ he) (fun e => nfB e.symm))
      fun o2 ht he => ss_if ((ev_ok K OK t V hk h1).2 _ _ _ _ ht) nfB (fun _ => exSs_ok K OK EN b V hk h3 _ _ _ _ _ he)
  | .whileS t b, kd, env, X, st, V, hk, h, l, o, fl, l', o', he => by
    refine vSWhile_el (fun te be els p q h => ?_) h
    subst q
    obtain ⟨e1, h⟩ := and2 h
    cases isNil_ok e1
    exact ss_while (ev_ok K OK t V hk (and2 h).1).2 (fun l o fl l' o' e => exSs_ok K OK EN b V hk (and2 h).2 l o fl l' o' e) he
  | .forS xs it b, kd, env, X, st, V, hk, h, l, o, fl, l', o', he => by
    refine vSFor_el (fun t iter be els p q h => ?_) h
    subst q
    obtain ⟨e1, h⟩ := and2 h
    cases isNil_ok e1
    obtain ⟨g1, h4⟩ := and2 h
    obtain ⟨g2, h3⟩ := and2 g1
    obtain ⟨h1, h2⟩ := and2 g2
    have he : obM ((ev O it).1 l o) (fun v o => oaM (srcOf o v) fun src => forGo src xs (exSs O b) fuelC 0 l o) = some (fl, l', o') := he
    exact ob he fun v o2 hv he => oa he fun src hs he => ss_for K V (tgtB_ok hk h1) h2 ((ev_ok K OK it V hk h3).1 _ _ _ _ hv) hs (fun P l o fl l' o' e => exSs_ok K OK EN b V.more hk h4 l o fl l' o' e) he
  | .forE xs it b, kd, env, X, st, V, hk, h, l, o, fl, l', o', he => by
    refine vSFor_el (fun t it2 be els p q h => ?_) h
    subst q
    obtain ⟨e1, h⟩ := and2 h
    cases isNil_ok e1
    refine vECall_el (fun f args kws p0 q h => ?_) h
    subst q
    obtain ⟨e1, h⟩ := and2 h
    cases isNil_ok e1
    refine oneL_el (fun iter q2 h => tupB_el (fun q q3 h => nmB_el (fun n p1 q4 h => ?_) h) h) h
    subst q4 q3 q2
    obtain ⟨g1, g2⟩ := and2 h
    obtain ⟨g3, h4⟩ := and2 g1
    obtain ⟨g4, h3⟩ := and2 g3
    obtain ⟨h1, h2⟩ := and2 g4
    obtain ⟨h5, h6⟩ := and2 g2
    cases sEq_ok h5
    have he : obM ((ev O it).1 l o) (fun v o => oaM (jTup v) fun vs => forGo (.items (enumA vs)) xs (exSs O b) fuelC 0 l o) = some (fl, l', o') := he
    refine ob he fun v o2 hv he => oa he fun vs hj hz => ?_
    cases jTup_ok hj
    exact ss_forE K V (tgtB_ok hk h1) h2 EN.g57 (se_gl K V EN.en (by rw [hk]; exact isGlob_ok h6) (debug_no (by decide))) ((ev_ok K OK it V hk h3).1 _ _ _ _ hv) (fun P l o fl l' o' e => exSs_ok K OK EN b V.more hk h4 l o fl l' o' e) hz
  | .forR x it b, kd, env, X, st, V, hk, h, l, o, fl, l', o', he => by
    refine vSFor_el (fun t it2 be els p q h => ?_) h
    subst q
    obtain ⟨e1, h⟩ := and2 h
    cases isNil_ok e1
    refine vECall_el (fun f args kws p0 q h => ?_) h
    subst q
    obtain ⟨e1, h⟩ := and2 h
    cases isNil_ok e1
    refine oneL_el (fun iter q2 h => nmB_el (fun y p2 q3 h => nmB_el (fun n p1 q4 h => ?_) h) h) h
    subst q4 q3 q2
    obtain ⟨g1, g2⟩ := and2 h
    obtain ⟨g3, h4⟩ := and2 g1
    obtain ⟨g4, h3⟩ := and2 g3
    obtain ⟨g5, h2⟩ := and2 g4
    obtain ⟨h0, h1⟩ := and2 g5
    obtain ⟨h5, h6⟩ := and2 g2
    cases sEq_ok h5
    cases sEq_ok h0
    have he : obM ((ev O it).1 l o) (fun v o => oaM (jInt v) fun z => oaM (jNat z) fun n => if n < 64 then forGo (.items (rangeA n)) [x] (exSs O b) fuelC 0 l o else none) = some (fl, l', o') := he
    refine ob he fun v o2 hv he => oa he fun z hz he => oa he fun n hn he => oi he fun hq he2 => ?_
    cases jInt_ok hz
    cases jNat_ok hn
    exact ss_forR K V (by rw [hk]; exact okK_ok h1) h2 EN.g58 (se_gl K V EN.rn (by rw [hk]; exact isGlob_ok h6) (debug_no (by decide))) ((ev_ok K OK it V hk h3).1 _ _ _ _ hv) hq (fun P l o fl l' o' e => exSs_ok K OK EN b V.more hk h4 l o fl l' o' e) he2
  | .ret e, kd, env, X, st, V, hk, h, l, o, fl, l', o', he => by
    refine vSReturn_el (fun v p q h => ?_) h
    subst q
    cases v with
    | none => exact nfB h
    | some v =>
      have he : obM ((ev O e).1 l o) (fun v o => some (FL.ret v, l, o)) = some (fl, l', o') := he
      exact ob he fun w o2 hv he => oq3 he (ss_ret ((ev_ok K OK e V hk h).1 _ _ _ _ hv))
  | .tryS b, kd, env, X, st, V, hk, h, l, o, fl, l', o', he => by
    refine vSTry_el (fun be hs els fin p q h => ?_) h
    subst q
    obtain ⟨e1, h⟩ := and2 h
    cases isNil_ok e1
    obtain ⟨e2, h⟩ := and2 h
    cases isNil_ok e2
    obtain ⟨e3, h⟩ := and2 h
    cases hs with
    | nil => exact nfB e3
    | cons h0 hs => exact ss_try (exSs_ok K OK EN b V hk h _ _ _ _ _ he)
  | .fail, kd, env, X, st, V, hk, h, l, o, fl, l', o', he => nsM he
theorem exSs_ok (K : C.Ok) (OK : OrcOk C nd O) (EN : EnOk C) : ∀ (ms : MSs) {kd : KD} {env : Env} {X : List Addr} {ss : List Stmt}, EnvOk env X → (∀ n, env.kindOf n = kd n) → chkSs O.gls kd ms ss = true → ∀ l o fl l' o', exSs O ms l o = some (fl, l', o') → SS C nd env X (execs ss env) l o fl l' o'
  | .nil, kd, env, X, ss, V, hk, h, l, o, fl, l', o', he => by
    cases isNil_ok h
    exact oq3 he ss_nil
  | .cons m ms, kd, env, X, ss, V, hk, h, l, o, fl, l', o', he => by
    cases ss with
    | nil => exact nfB h
    | cons s r =>
      have he : oxM (exS O m l o) (fun l o => exSs O ms l o) = some (fl, l', o') := he
      exact ox he (fun l2 o2 hm he => ss_cons (exS_ok K OK EN m V hk (and2 h).1 _ _ _ _ _ hm) (exSs_ok K OK EN ms V hk (and2 h).2 _ _ _ _ _ he)) fun v l2 o2 hm he => oq3 he (ss_cons_ret (exS_ok K OK EN m V hk (and2 h).1 _ _ _ _ _ hm))
end
end
end
section
noncomputable def fdOf (K : Frag) (a : Addr) : Option FuncData := match K.lookup a with
  | some ⟨_, _, .func fd, _⟩ => some fd
  | _ => none
theorem fdOf_some {K : Frag} {a : Addr} {fd : FuncData} (h : fdOf K a = some fd) : ∃ oc od osl, K.lookup a = some ⟨oc, od, .func fd, osl⟩ := by
  unfold fdOf at h
  split at h
  · rename_i oc od fd' osl hq
    cases h
    exact ⟨oc, od, osl, hq⟩
  · cases h
noncomputable def bodyF (fd : FuncData) : List Stmt := match fd.body with
  | .stmts b => b
  | _ => []
noncomputable def isStmts (fd : FuncData) : Bool := match fd.body with
  | .stmts _ => true
  | _ => false
noncomputable def defB (K : Frag) (fd : FuncData) (pn : List Nm) : Bool :=
  ((((isStmts fd).and (Nat.beq fd.globals mainGlobals)).and ((match fd.closure with | [] => true | _ => false).and (Nat.beq fd.builtins builtinsNs))).and ((codeIn K fd.code fd.qualname).and (pn.all fun x => okK (fd.scope.names.lookup (toS x))))).and
    (((decide pn.Nodup).and (decide ((cellsFrom 0 fd.scope.names []).map (·.1)).Nodup)).and ((fd.scope.isCoroutine.not.and fd.scope.isGenerator.not).and (decide (fd.scope.kind = .function))))
theorem di_of {C : Cfg} {a : Addr} {pn : List Nm} {dv : List Value} {fd : FuncData} (hs : fdOf C.K a = some fd) (hd : defB C.K fd pn = true)
    (hb : ∀ (s : Shared) (vs : List Value), C.K.In s.heap → vs.length + dv.length = pn.length → BindsTo s fd ⟨vs, []⟩ ((pn.map toS).zip (vs ++ dv))) : DefIs C a pn dv (bodyF fd) fd.scope := by
  unfold defB at hd
  simp only [Bool.and_eq_true, decide_eq_true_eq, Bool.not_eq_true', List.all_eq_true] at hd
  obtain ⟨⟨⟨⟨h1, h2⟩, h3, h4⟩, h5, h6⟩, ⟨h7, h8⟩, ⟨h9, h10⟩, h11⟩ := hd
  obtain ⟨oc, od, osl, hl⟩ := fdOf_some hs
  have e2 := Nat.eq_of_beq_eq_true h2
  have e4 := Nat.eq_of_beq_eq_true h4
  refine ⟨?_, fun x hx => okK_ok (h6 x hx), h7, h8, h9, h10, h11⟩
  obtain ⟨name, qual, params, body, scope, globals, closure, dV, kV, doc, pm, an, cdv, ct, bt⟩ := fd
  dsimp only at *
  subst e2 e4
  cases closure with
  | cons => simp at h3
  | nil =>
    cases body with
    | stmts b => exact ⟨oc, od, name, qual, params, dV, kV, doc, pm, an, cdv, ct, osl, hl, h5, hb⟩
    | _ => simp [isStmts] at h1
noncomputable def retOf : FL → AV
  | .ret v => v
  | .next => .none
noncomputable def FnOk (C : Cfg) (a : Addr) (pn : List Nm) (da : List AV) (m : MSs) : Prop :=
  ∀ (nd : Nat) (O : Orc), OrcOk C nd O → O.gls = gls0 → ∀ args o fl l' o', args.length + da.length = pn.length → exSs O m (pn.zip (args ++ da)) o = some (fl, l', o') → SCc C (nd + 1) (.ref a) args o (retOf fl) o'
theorem fn_ok {C : Cfg} {a : Addr} {pn : List Nm} {da : List AV} {dv : List Value} {m : MSs} {fd : FuncData} (K : C.Ok) (EN : EnOk C) (D : DefIs C a pn dv (bodyF fd) fd.scope) (hda : ∀ X γ led, VRs C X γ led da dv) (hc : chkSs gls0 (fun n => fd.scope.names.lookup n) m (bodyF fd) = true) : FnOk C a pn da m := by
  intro nd O OK hg args o fl l' o' hl he
  have hc' : chkSs O.gls (fun n => fd.scope.names.lookup n) m (bodyF fd) = true := by rw [hg]; exact hc
  have S := def_code (nd := nd) K K.nolimit D hda hl fun env X V hsc => exSs_ok K OK EN m (ss := bodyF fd) V (fun n => by show env.scope.names.lookup n = _; rw [hsc]) hc' _ _ _ _ _ he
  cases fl <;> exact S
theorem len1 {α : Type} {l : List α} (h : l.length = 1) : ∃ a, l = [a] := List.length_eq_one_iff.mp h
theorem len2 {α : Type} {l : List α} (h : l.length = 2) : ∃ a b, l = [a, b] := by
  match l, h with
  | [a, b], _ => exact ⟨a, b, rfl⟩
theorem len3 {α : Type} {l : List α} (h : l.length = 3) : ∃ a b c, l = [a, b, c] := by
  match l, h with
  | [a, b, c], _ => exact ⟨a, b, c, rfl⟩
theorem len4 {α : Type} {l : List α} (h : l.length = 4) : ∃ a b c d, l = [a, b, c, d] := by
  match l, h with
  | [a, b, c, d], _ => exact ⟨a, b, c, d, rfl⟩
theorem len5 {α : Type} {l : List α} (h : l.length = 5) : ∃ a b c d e, l = [a, b, c, d, e] := by
  match l, h with
  | [a, b, c, d, e], _ => exact ⟨a, b, c, d, e, rfl⟩
end
section
noncomputable abbrev KK (w : World) : Frag := KF w.params
noncomputable def fdd (w : World) (a : Addr) : FuncData := (fdOf (KK w) a).getD default
theorem wbind {fd : FuncData} {a1 a2 : Arg} (h1 : fd.params.args = [a1, a2]) (h2 : fd.params.posonlyargs = []) (h3 : fd.params.kwonlyargs = []) (h4 : fd.params.vararg = none) (h5 : fd.params.kwarg = none) (e1 : a1.arg = toS n_self_) (e2 : a2.arg = toS n_packages_) (hd : fd.defaults = .ref 241) (a : Value) :
    ∃ k : Option (Array Value) → Sem (List (PySem.Str × Value)), bindArgs fd ⟨[a], []⟩ = seqItems? fd.defaults >>= k ∧ k (some #[Value.none]) = pure ((p_World_init.map toS).zip [a, Value.none]) := by
  obtain ⟨name, qual, ⟨p1, p2, p3, p4, p5⟩, body, scope, globals, closure, dV, kV, doc, pm, an, cdv, ct, bt⟩ := fd
  obtain ⟨m1, _, _⟩ := a1
  obtain ⟨m2, _, _⟩ := a2
  dsimp only at *
  subst h1 h2 h3 h4 h5 e1 e2 hd
  exact ⟨_, rfl, rfl⟩
theorem fd_0 (w : World) : ∃ fd, fdOf (KK w) 94 = some fd ∧ defB (KK w) fd p_without_pointer = true ∧ chkSs gls0 (fun n => fd.scope.names.lookup n) b_without_pointer (bodyF fd) = true ∧ ∀ a, bindArgs fd ⟨[a], []⟩ = pure ((p_without_pointer.map toS).zip [a]) :=
  ⟨fdd w 94, by kernel_rfl, by kernel_rfl, by kernel_rfl, fun a => by kernel_rfl⟩
theorem fn_0 {C : Cfg} (K : C.Ok) (EN : EnOk C) (hK : C.K = KK C.w) : FnOk C 94 p_without_pointer [] b_without_pointer := by
  obtain ⟨fd, h1, h2, h3, h4⟩ := fd_0 C.w
  refine fn_ok (dv := []) K EN (di_of (by rw [hK]; exact h1) (by rw [hK]; exact h2) fun s vs X hl => ?_) (fun X γ led => by simp only [VRs]) h3
  have hl : vs.length = 1 := hl
  obtain ⟨a, rfl⟩ := len1 hl
  rw [List.append_nil]
  exact BindsTo.of_eq (h4 a)
theorem fd_1 (w : World) : ∃ fd, fdOf (KK w) 101 = some fd ∧ defB (KK w) fd p_own_methods = true ∧ chkSs gls0 (fun n => fd.scope.names.lookup n) b_own_methods (bodyF fd) = true ∧ ∀ a b, bindArgs fd ⟨[a, b], []⟩ = pure ((p_own_methods.map toS).zip [a, b]) :=
  ⟨fdd w 101, by kernel_rfl, by kernel_rfl, by kernel_rfl, fun a b => by kernel_rfl⟩
theorem fn_1 {C : Cfg} (K : C.Ok) (EN : EnOk C) (hK : C.K = KK C.w) : FnOk C 101 p_own_methods [] b_own_methods := by
  obtain ⟨fd, h1, h2, h3, h4⟩ := fd_1 C.w
  refine fn_ok (dv := []) K EN (di_of (by rw [hK]; exact h1) (by rw [hK]; exact h2) fun s vs X hl => ?_) (fun X γ led => by simp only [VRs]) h3
  have hl : vs.length = 2 := hl
  obtain ⟨a, b, rfl⟩ := len2 hl
  rw [List.append_nil]
  exact BindsTo.of_eq (h4 a b)
theorem fd_2 (w : World) : ∃ fd, fdOf (KK w) 106 = some fd ∧ defB (KK w) fd p_members_at = true ∧ chkSs gls0 (fun n => fd.scope.names.lookup n) b_members_at (bodyF fd) = true ∧ ∀ a b c, bindArgs fd ⟨[a, b, c], []⟩ = pure ((p_members_at.map toS).zip [a, b, c]) :=
  ⟨fdd w 106, by kernel_rfl, by kernel_rfl, by kernel_rfl, fun a b c => by kernel_rfl⟩
theorem fn_2 {C : Cfg} (K : C.Ok) (EN : EnOk C) (hK : C.K = KK C.w) : FnOk C 106 p_members_at [] b_members_at := by
  obtain ⟨fd, h1, h2, h3, h4⟩ := fd_2 C.w
  refine fn_ok (dv := []) K EN (di_of (by rw [hK]; exact h1) (by rw [hK]; exact h2) fun s vs X hl => ?_) (fun X γ led => by simp only [VRs]) h3
  have hl : vs.length = 3 := hl
  obtain ⟨a, b, c, rfl⟩ := len3 hl
  rw [List.append_nil]
  exact BindsTo.of_eq (h4 a b c)
theorem fd_3 (w : World) : ∃ fd, fdOf (KK w) 113 = some fd ∧ defB (KK w) fd p_embedded_in = true ∧ chkSs gls0 (fun n => fd.scope.names.lookup n) b_embedded_in (bodyF fd) = true ∧ ∀ a b, bindArgs fd ⟨[a, b], []⟩ = pure ((p_embedded_in.map toS).zip [a, b]) :=
  ⟨fdd w 113, by kernel_rfl, by kernel_rfl, by kernel_rfl, fun a b => by kernel_rfl⟩
theorem fn_3 {C : Cfg} (K : C.Ok) (EN : EnOk C) (hK : C.K = KK C.w) : FnOk C 113 p_embedded_in [] b_embedded_in := by
  obtain ⟨fd, h1, h2, h3, h4⟩ := fd_3 C.w
  refine fn_ok (dv := []) K EN (di_of (by rw [hK]; exact h1) (by rw [hK]; exact h2) fun s vs X hl => ?_) (fun X γ led => by simp only [VRs]) h3
  have hl : vs.length = 2 := hl
  obtain ⟨a, b, rfl⟩ := len2 hl
  rw [List.append_nil]
  exact BindsTo.of_eq (h4 a b)
theorem fd_4 (w : World) : ∃ fd, fdOf (KK w) 148 = some fd ∧ defB (KK w) fd p_start_type = true ∧ chkSs gls0 (fun n => fd.scope.names.lookup n) b_start_type (bodyF fd) = true ∧ ∀ a b, bindArgs fd ⟨[a, b], []⟩ = pure ((p_start_type.map toS).zip [a, b]) :=
  ⟨fdd w 148, by kernel_rfl, by kernel_rfl, by kernel_rfl, fun a b => by kernel_rfl⟩
theorem fn_4 {C : Cfg} (K : C.Ok) (EN : EnOk C) (hK : C.K = KK C.w) : FnOk C 148 p_start_type [] b_start_type := by
  obtain ⟨fd, h1, h2, h3, h4⟩ := fd_4 C.w
  refine fn_ok (dv := []) K EN (di_of (by rw [hK]; exact h1) (by rw [hK]; exact h2) fun s vs X hl => ?_) (fun X γ led => by simp only [VRs]) h3
  have hl : vs.length = 2 := hl
  obtain ⟨a, b, rfl⟩ := len2 hl
  rw [List.append_nil]
  exact BindsTo.of_eq (h4 a b)
theorem fd_5 (w : World) : ∃ fd, fdOf (KK w) 155 = some fd ∧ defB (KK w) fd p_find_member = true ∧ chkSs gls0 (fun n => fd.scope.names.lookup n) b_find_member (bodyF fd) = true ∧ ∀ a b c, bindArgs fd ⟨[a, b, c], []⟩ = pure ((p_find_member.map toS).zip [a, b, c]) :=
  ⟨fdd w 155, by kernel_rfl, by kernel_rfl, by kernel_rfl, fun a b c => by kernel_rfl⟩
theorem fn_5 {C : Cfg} (K : C.Ok) (EN : EnOk C) (hK : C.K = KK C.w) : FnOk C 155 p_find_member [] b_find_member := by
  obtain ⟨fd, h1, h2, h3, h4⟩ := fd_5 C.w
  refine fn_ok (dv := []) K EN (di_of (by rw [hK]; exact h1) (by rw [hK]; exact h2) fun s vs X hl => ?_) (fun X γ led => by simp only [VRs]) h3
  have hl : vs.length = 3 := hl
  obtain ⟨a, b, c, rfl⟩ := len3 hl
  rw [List.append_nil]
  exact BindsTo.of_eq (h4 a b c)
theorem fd_6 (w : World) : ∃ fd, fdOf (KK w) 162 = some fd ∧ defB (KK w) fd p_names_of_methods = true ∧ chkSs gls0 (fun n => fd.scope.names.lookup n) b_names_of_methods (bodyF fd) = true ∧ ∀ a b, bindArgs fd ⟨[a, b], []⟩ = pure ((p_names_of_methods.map toS).zip [a, b]) :=
  ⟨fdd w 162, by kernel_rfl, by kernel_rfl, by kernel_rfl, fun a b => by kernel_rfl⟩
theorem fn_6 {C : Cfg} (K : C.Ok) (EN : EnOk C) (hK : C.K = KK C.w) : FnOk C 162 p_names_of_methods [] b_names_of_methods := by
  obtain ⟨fd, h1, h2, h3, h4⟩ := fd_6 C.w
  refine fn_ok (dv := []) K EN (di_of (by rw [hK]; exact h1) (by rw [hK]; exact h2) fun s vs X hl => ?_) (fun X γ led => by simp only [VRs]) h3
  have hl : vs.length = 2 := hl
  obtain ⟨a, b, rfl⟩ := len2 hl
  rw [List.append_nil]
  exact BindsTo.of_eq (h4 a b)
theorem fd_7 (w : World) : ∃ fd, fdOf (KK w) 169 = some fd ∧ defB (KK w) fd p_member_or_none = true ∧ chkSs gls0 (fun n => fd.scope.names.lookup n) b_member_or_none (bodyF fd) = true ∧ ∀ a b c, bindArgs fd ⟨[a, b, c], []⟩ = pure ((p_member_or_none.map toS).zip [a, b, c]) :=
  ⟨fdd w 169, by kernel_rfl, by kernel_rfl, by kernel_rfl, fun a b c => by kernel_rfl⟩
theorem fn_7 {C : Cfg} (K : C.Ok) (EN : EnOk C) (hK : C.K = KK C.w) : FnOk C 169 p_member_or_none [] b_member_or_none := by
  obtain ⟨fd, h1, h2, h3, h4⟩ := fd_7 C.w
  refine fn_ok (dv := []) K EN (di_of (by rw [hK]; exact h1) (by rw [hK]; exact h2) fun s vs X hl => ?_) (fun X γ led => by simp only [VRs]) h3
  have hl : vs.length = 3 := hl
  obtain ⟨a, b, c, rfl⟩ := len3 hl
  rw [List.append_nil]
  exact BindsTo.of_eq (h4 a b c)
theorem fd_8 (w : World) : ∃ fd, fdOf (KK w) 174 = some fd ∧ defB (KK w) fd p_is_in_set = true ∧ chkSs gls0 (fun n => fd.scope.names.lookup n) b_is_in_set (bodyF fd) = true ∧ ∀ a b, bindArgs fd ⟨[a, b], []⟩ = pure ((p_is_in_set.map toS).zip [a, b]) :=
  ⟨fdd w 174, by kernel_rfl, by kernel_rfl, by kernel_rfl, fun a b => by kernel_rfl⟩
theorem fn_8 {C : Cfg} (K : C.Ok) (EN : EnOk C) (hK : C.K = KK C.w) : FnOk C 174 p_is_in_set [] b_is_in_set := by
  obtain ⟨fd, h1, h2, h3, h4⟩ := fd_8 C.w
  refine fn_ok (dv := []) K EN (di_of (by rw [hK]; exact h1) (by rw [hK]; exact h2) fun s vs X hl => ?_) (fun X γ led => by simp only [VRs]) h3
  have hl : vs.length = 2 := hl
  obtain ⟨a, b, rfl⟩ := len2 hl
  rw [List.append_nil]
  exact BindsTo.of_eq (h4 a b)
theorem fd_9 (w : World) : ∃ fd, fdOf (KK w) 181 = some fd ∧ defB (KK w) fd p_method_set = true ∧ chkSs gls0 (fun n => fd.scope.names.lookup n) b_method_set (bodyF fd) = true ∧ ∀ a b, bindArgs fd ⟨[a, b], []⟩ = pure ((p_method_set.map toS).zip [a, b]) :=
  ⟨fdd w 181, by kernel_rfl, by kernel_rfl, by kernel_rfl, fun a b => by kernel_rfl⟩
theorem fn_9 {C : Cfg} (K : C.Ok) (EN : EnOk C) (hK : C.K = KK C.w) : FnOk C 181 p_method_set [] b_method_set := by
  obtain ⟨fd, h1, h2, h3, h4⟩ := fd_9 C.w
  refine fn_ok (dv := []) K EN (di_of (by rw [hK]; exact h1) (by rw [hK]; exact h2) fun s vs X hl => ?_) (fun X γ led => by simp only [VRs]) h3
  have hl : vs.length = 2 := hl
  obtain ⟨a, b, rfl⟩ := len2 hl
  rw [List.append_nil]
  exact BindsTo.of_eq (h4 a b)
theorem fd_10 (w : World) : ∃ fd, fdOf (KK w) 188 = some fd ∧ defB (KK w) fd p_lack_of = true ∧ chkSs gls0 (fun n => fd.scope.names.lookup n) b_lack_of (bodyF fd) = true ∧ ∀ a b c d, bindArgs fd ⟨[a, b, c, d], []⟩ = pure ((p_lack_of.map toS).zip [a, b, c, d]) :=
  ⟨fdd w 188, by kernel_rfl, by kernel_rfl, by kernel_rfl, fun a b c d => by kernel_rfl⟩
theorem fn_10 {C : Cfg} (K : C.Ok) (EN : EnOk C) (hK : C.K = KK C.w) : FnOk C 188 p_lack_of [] b_lack_of := by
  obtain ⟨fd, h1, h2, h3, h4⟩ := fd_10 C.w
  refine fn_ok (dv := []) K EN (di_of (by rw [hK]; exact h1) (by rw [hK]; exact h2) fun s vs X hl => ?_) (fun X γ led => by simp only [VRs]) h3
  have hl : vs.length = 4 := hl
  obtain ⟨a, b, c, d, rfl⟩ := len4 hl
  rw [List.append_nil]
  exact BindsTo.of_eq (h4 a b c d)
theorem fd_11 (w : World) : ∃ fd, fdOf (KK w) 195 = some fd ∧ defB (KK w) fd p_implements = true ∧ chkSs gls0 (fun n => fd.scope.names.lookup n) b_implements (bodyF fd) = true ∧ ∀ a b c, bindArgs fd ⟨[a, b, c], []⟩ = pure ((p_implements.map toS).zip [a, b, c]) :=
  ⟨fdd w 195, by kernel_rfl, by kernel_rfl, by kernel_rfl, fun a b c => by kernel_rfl⟩
theorem fn_11 {C : Cfg} (K : C.Ok) (EN : EnOk C) (hK : C.K = KK C.w) : FnOk C 195 p_implements [] b_implements := by
  obtain ⟨fd, h1, h2, h3, h4⟩ := fd_11 C.w
  refine fn_ok (dv := []) K EN (di_of (by rw [hK]; exact h1) (by rw [hK]; exact h2) fun s vs X hl => ?_) (fun X γ led => by simp only [VRs]) h3
  have hl : vs.length = 3 := hl
  obtain ⟨a, b, c, rfl⟩ := len3 hl
  rw [List.append_nil]
  exact BindsTo.of_eq (h4 a b c)
theorem fd_12 (w : World) : ∃ fd, fdOf (KK w) 202 = some fd ∧ defB (KK w) fd p_satisfied = true ∧ chkSs gls0 (fun n => fd.scope.names.lookup n) b_satisfied (bodyF fd) = true ∧ ∀ a b c, bindArgs fd ⟨[a, b, c], []⟩ = pure ((p_satisfied.map toS).zip [a, b, c]) :=
  ⟨fdd w 202, by kernel_rfl, by kernel_rfl, by kernel_rfl, fun a b c => by kernel_rfl⟩
theorem fn_12 {C : Cfg} (K : C.Ok) (EN : EnOk C) (hK : C.K = KK C.w) : FnOk C 202 p_satisfied [] b_satisfied := by
  obtain ⟨fd, h1, h2, h3, h4⟩ := fd_12 C.w
  refine fn_ok (dv := []) K EN (di_of (by rw [hK]; exact h1) (by rw [hK]; exact h2) fun s vs X hl => ?_) (fun X γ led => by simp only [VRs]) h3
  have hl : vs.length = 3 := hl
  obtain ⟨a, b, c, rfl⟩ := len3 hl
  rw [List.append_nil]
  exact BindsTo.of_eq (h4 a b c)
theorem fd_13 (w : World) : ∃ fd, fdOf (KK w) 233 = some fd ∧ defB (KK w) fd p_known_rows = true ∧ chkSs gls0 (fun n => fd.scope.names.lookup n) b_known_rows (bodyF fd) = true ∧ bindArgs fd ⟨[], []⟩ = pure ((p_known_rows.map toS).zip []) :=
  ⟨fdd w 233, by kernel_rfl, by kernel_rfl, by kernel_rfl, by kernel_rfl⟩
theorem fn_13 {C : Cfg} (K : C.Ok) (EN : EnOk C) (hK : C.K = KK C.w) : FnOk C 233 p_known_rows [] b_known_rows := by
  obtain ⟨fd, h1, h2, h3, h4⟩ := fd_13 C.w
  refine fn_ok (dv := []) K EN (di_of (by rw [hK]; exact h1) (by rw [hK]; exact h2) fun s vs X hl => ?_) (fun X γ led => by simp only [VRs]) h3
  have hl : vs.length = 0 := hl
  obtain rfl := List.length_eq_zero_iff.mp hl
  rw [List.append_nil]
  exact BindsTo.of_eq (h4)
theorem fd_14 (w : World) : ∃ fd, fdOf (KK w) 276 = some fd ∧ defB (KK w) fd p__law_pool = true ∧ chkSs gls0 (fun n => fd.scope.names.lookup n) b__law_pool (bodyF fd) = true ∧ ∀ a b, bindArgs fd ⟨[a, b], []⟩ = pure ((p__law_pool.map toS).zip [a, b]) :=
  ⟨fdd w 276, by kernel_rfl, by kernel_rfl, by kernel_rfl, fun a b => by kernel_rfl⟩
theorem fn_14 {C : Cfg} (K : C.Ok) (EN : EnOk C) (hK : C.K = KK C.w) : FnOk C 276 p__law_pool [] b__law_pool := by
  obtain ⟨fd, h1, h2, h3, h4⟩ := fd_14 C.w
  refine fn_ok (dv := []) K EN (di_of (by rw [hK]; exact h1) (by rw [hK]; exact h2) fun s vs X hl => ?_) (fun X γ led => by simp only [VRs]) h3
  have hl : vs.length = 2 := hl
  obtain ⟨a, b, rfl⟩ := len2 hl
  rw [List.append_nil]
  exact BindsTo.of_eq (h4 a b)
theorem fd_15 (w : World) : ∃ fd, fdOf (KK w) 283 = some fd ∧ defB (KK w) fd p__law_take = true ∧ chkSs gls0 (fun n => fd.scope.names.lookup n) b__law_take (bodyF fd) = true ∧ ∀ a b, bindArgs fd ⟨[a, b], []⟩ = pure ((p__law_take.map toS).zip [a, b]) :=
  ⟨fdd w 283, by kernel_rfl, by kernel_rfl, by kernel_rfl, fun a b => by kernel_rfl⟩
theorem fn_15 {C : Cfg} (K : C.Ok) (EN : EnOk C) (hK : C.K = KK C.w) : FnOk C 283 p__law_take [] b__law_take := by
  obtain ⟨fd, h1, h2, h3, h4⟩ := fd_15 C.w
  refine fn_ok (dv := []) K EN (di_of (by rw [hK]; exact h1) (by rw [hK]; exact h2) fun s vs X hl => ?_) (fun X γ led => by simp only [VRs]) h3
  have hl : vs.length = 2 := hl
  obtain ⟨a, b, rfl⟩ := len2 hl
  rw [List.append_nil]
  exact BindsTo.of_eq (h4 a b)
theorem fd_16 (w : World) : ∃ fd, fdOf (KK w) 290 = some fd ∧ defB (KK w) fd p__law_one = true ∧ chkSs gls0 (fun n => fd.scope.names.lookup n) b__law_one (bodyF fd) = true ∧ ∀ a b, bindArgs fd ⟨[a, b], []⟩ = pure ((p__law_one.map toS).zip [a, b]) :=
  ⟨fdd w 290, by kernel_rfl, by kernel_rfl, by kernel_rfl, fun a b => by kernel_rfl⟩
theorem fn_16 {C : Cfg} (K : C.Ok) (EN : EnOk C) (hK : C.K = KK C.w) : FnOk C 290 p__law_one [] b__law_one := by
  obtain ⟨fd, h1, h2, h3, h4⟩ := fd_16 C.w
  refine fn_ok (dv := []) K EN (di_of (by rw [hK]; exact h1) (by rw [hK]; exact h2) fun s vs X hl => ?_) (fun X γ led => by simp only [VRs]) h3
  have hl : vs.length = 2 := hl
  obtain ⟨a, b, rfl⟩ := len2 hl
  rw [List.append_nil]
  exact BindsTo.of_eq (h4 a b)
theorem fd_17 (w : World) : ∃ fd, fdOf (KK w) 297 = some fd ∧ defB (KK w) fd p__law_sorts = true ∧ chkSs gls0 (fun n => fd.scope.names.lookup n) b__law_sorts (bodyF fd) = true ∧ bindArgs fd ⟨[], []⟩ = pure ((p__law_sorts.map toS).zip []) :=
  ⟨fdd w 297, by kernel_rfl, by kernel_rfl, by kernel_rfl, by kernel_rfl⟩
theorem fn_17 {C : Cfg} (K : C.Ok) (EN : EnOk C) (hK : C.K = KK C.w) : FnOk C 297 p__law_sorts [] b__law_sorts := by
  obtain ⟨fd, h1, h2, h3, h4⟩ := fd_17 C.w
  refine fn_ok (dv := []) K EN (di_of (by rw [hK]; exact h1) (by rw [hK]; exact h2) fun s vs X hl => ?_) (fun X γ led => by simp only [VRs]) h3
  have hl : vs.length = 0 := hl
  obtain rfl := List.length_eq_zero_iff.mp hl
  rw [List.append_nil]
  exact BindsTo.of_eq (h4)
theorem fd_18 (w : World) : ∃ fd, fdOf (KK w) 306 = some fd ∧ defB (KK w) fd p__law_marks = true ∧ chkSs gls0 (fun n => fd.scope.names.lookup n) b__law_marks (bodyF fd) = true ∧ ∀ a, bindArgs fd ⟨[a], []⟩ = pure ((p__law_marks.map toS).zip [a]) :=
  ⟨fdd w 306, by kernel_rfl, by kernel_rfl, by kernel_rfl, fun a => by kernel_rfl⟩
theorem fn_18 {C : Cfg} (K : C.Ok) (EN : EnOk C) (hK : C.K = KK C.w) : FnOk C 306 p__law_marks [] b__law_marks := by
  obtain ⟨fd, h1, h2, h3, h4⟩ := fd_18 C.w
  refine fn_ok (dv := []) K EN (di_of (by rw [hK]; exact h1) (by rw [hK]; exact h2) fun s vs X hl => ?_) (fun X γ led => by simp only [VRs]) h3
  have hl : vs.length = 1 := hl
  obtain ⟨a, rfl⟩ := len1 hl
  rw [List.append_nil]
  exact BindsTo.of_eq (h4 a)
theorem fd_19 (w : World) : ∃ fd, fdOf (KK w) 311 = some fd ∧ defB (KK w) fd p__law_built = true ∧ chkSs gls0 (fun n => fd.scope.names.lookup n) b__law_built (bodyF fd) = true ∧ ∀ a b c, bindArgs fd ⟨[a, b, c], []⟩ = pure ((p__law_built.map toS).zip [a, b, c]) :=
  ⟨fdd w 311, by kernel_rfl, by kernel_rfl, by kernel_rfl, fun a b c => by kernel_rfl⟩
theorem fn_19 {C : Cfg} (K : C.Ok) (EN : EnOk C) (hK : C.K = KK C.w) : FnOk C 311 p__law_built [] b__law_built := by
  obtain ⟨fd, h1, h2, h3, h4⟩ := fd_19 C.w
  refine fn_ok (dv := []) K EN (di_of (by rw [hK]; exact h1) (by rw [hK]; exact h2) fun s vs X hl => ?_) (fun X γ led => by simp only [VRs]) h3
  have hl : vs.length = 3 := hl
  obtain ⟨a, b, c, rfl⟩ := len3 hl
  rw [List.append_nil]
  exact BindsTo.of_eq (h4 a b c)
theorem fd_20 (w : World) : ∃ fd, fdOf (KK w) 318 = some fd ∧ defB (KK w) fd p__law_seen = true ∧ chkSs gls0 (fun n => fd.scope.names.lookup n) b__law_seen (bodyF fd) = true ∧ ∀ a b c d, bindArgs fd ⟨[a, b, c, d], []⟩ = pure ((p__law_seen.map toS).zip [a, b, c, d]) :=
  ⟨fdd w 318, by kernel_rfl, by kernel_rfl, by kernel_rfl, fun a b c d => by kernel_rfl⟩
theorem fn_20 {C : Cfg} (K : C.Ok) (EN : EnOk C) (hK : C.K = KK C.w) : FnOk C 318 p__law_seen [] b__law_seen := by
  obtain ⟨fd, h1, h2, h3, h4⟩ := fd_20 C.w
  refine fn_ok (dv := []) K EN (di_of (by rw [hK]; exact h1) (by rw [hK]; exact h2) fun s vs X hl => ?_) (fun X γ led => by simp only [VRs]) h3
  have hl : vs.length = 4 := hl
  obtain ⟨a, b, c, d, rfl⟩ := len4 hl
  rw [List.append_nil]
  exact BindsTo.of_eq (h4 a b c d)
theorem fd_21 (w : World) : ∃ fd, fdOf (KK w) 325 = some fd ∧ defB (KK w) fd p__law_due = true ∧ chkSs gls0 (fun n => fd.scope.names.lookup n) b__law_due (bodyF fd) = true ∧ ∀ a b, bindArgs fd ⟨[a, b], []⟩ = pure ((p__law_due.map toS).zip [a, b]) :=
  ⟨fdd w 325, by kernel_rfl, by kernel_rfl, by kernel_rfl, fun a b => by kernel_rfl⟩
theorem fn_21 {C : Cfg} (K : C.Ok) (EN : EnOk C) (hK : C.K = KK C.w) : FnOk C 325 p__law_due [] b__law_due := by
  obtain ⟨fd, h1, h2, h3, h4⟩ := fd_21 C.w
  refine fn_ok (dv := []) K EN (di_of (by rw [hK]; exact h1) (by rw [hK]; exact h2) fun s vs X hl => ?_) (fun X γ led => by simp only [VRs]) h3
  have hl : vs.length = 2 := hl
  obtain ⟨a, b, rfl⟩ := len2 hl
  rw [List.append_nil]
  exact BindsTo.of_eq (h4 a b)
theorem fd_22 (w : World) : ∃ fd, fdOf (KK w) 330 = some fd ∧ defB (KK w) fd p__law_asked = true ∧ chkSs gls0 (fun n => fd.scope.names.lookup n) b__law_asked (bodyF fd) = true ∧ ∀ a b, bindArgs fd ⟨[a, b], []⟩ = pure ((p__law_asked.map toS).zip [a, b]) :=
  ⟨fdd w 330, by kernel_rfl, by kernel_rfl, by kernel_rfl, fun a b => by kernel_rfl⟩
theorem fn_22 {C : Cfg} (K : C.Ok) (EN : EnOk C) (hK : C.K = KK C.w) : FnOk C 330 p__law_asked [] b__law_asked := by
  obtain ⟨fd, h1, h2, h3, h4⟩ := fd_22 C.w
  refine fn_ok (dv := []) K EN (di_of (by rw [hK]; exact h1) (by rw [hK]; exact h2) fun s vs X hl => ?_) (fun X γ led => by simp only [VRs]) h3
  have hl : vs.length = 2 := hl
  obtain ⟨a, b, rfl⟩ := len2 hl
  rw [List.append_nil]
  exact BindsTo.of_eq (h4 a b)
theorem fd_23 (w : World) : ∃ fd, fdOf (KK w) 337 = some fd ∧ defB (KK w) fd p__law_is_so = true ∧ chkSs gls0 (fun n => fd.scope.names.lookup n) b__law_is_so (bodyF fd) = true ∧ ∀ a b c d, bindArgs fd ⟨[a, b, c, d], []⟩ = pure ((p__law_is_so.map toS).zip [a, b, c, d]) :=
  ⟨fdd w 337, by kernel_rfl, by kernel_rfl, by kernel_rfl, fun a b c d => by kernel_rfl⟩
theorem fn_23 {C : Cfg} (K : C.Ok) (EN : EnOk C) (hK : C.K = KK C.w) : FnOk C 337 p__law_is_so [] b__law_is_so := by
  obtain ⟨fd, h1, h2, h3, h4⟩ := fd_23 C.w
  refine fn_ok (dv := []) K EN (di_of (by rw [hK]; exact h1) (by rw [hK]; exact h2) fun s vs X hl => ?_) (fun X γ led => by simp only [VRs]) h3
  have hl : vs.length = 4 := hl
  obtain ⟨a, b, c, d, rfl⟩ := len4 hl
  rw [List.append_nil]
  exact BindsTo.of_eq (h4 a b c d)
theorem fd_24 (w : World) : ∃ fd, fdOf (KK w) 344 = some fd ∧ defB (KK w) fd p_law = true ∧ chkSs gls0 (fun n => fd.scope.names.lookup n) b_law (bodyF fd) = true ∧ ∀ a, bindArgs fd ⟨[a], []⟩ = pure ((p_law.map toS).zip [a]) :=
  ⟨fdd w 344, by kernel_rfl, by kernel_rfl, by kernel_rfl, fun a => by kernel_rfl⟩
theorem fn_24 {C : Cfg} (K : C.Ok) (EN : EnOk C) (hK : C.K = KK C.w) : FnOk C 344 p_law [] b_law := by
  obtain ⟨fd, h1, h2, h3, h4⟩ := fd_24 C.w
  refine fn_ok (dv := []) K EN (di_of (by rw [hK]; exact h1) (by rw [hK]; exact h2) fun s vs X hl => ?_) (fun X γ led => by simp only [VRs]) h3
  have hl : vs.length = 1 := hl
  obtain ⟨a, rfl⟩ := len1 hl
  rw [List.append_nil]
  exact BindsTo.of_eq (h4 a)
theorem fd_40 (w : World) : ∃ fd, fdOf (KK w) 80 = some fd ∧ defB (KK w) fd p_Reached_init = true ∧ chkSs gls0 (fun n => fd.scope.names.lookup n) b_Reached_init (bodyF fd) = true ∧ ∀ a b c, bindArgs fd ⟨[a, b, c], []⟩ = pure ((p_Reached_init.map toS).zip [a, b, c]) :=
  ⟨fdd w 80, by kernel_rfl, by kernel_rfl, by kernel_rfl, fun a b c => by kernel_rfl⟩
theorem fn_40 {C : Cfg} (K : C.Ok) (EN : EnOk C) (hK : C.K = KK C.w) : FnOk C 80 p_Reached_init [] b_Reached_init := by
  obtain ⟨fd, h1, h2, h3, h4⟩ := fd_40 C.w
  refine fn_ok (dv := []) K EN (di_of (by rw [hK]; exact h1) (by rw [hK]; exact h2) fun s vs X hl => ?_) (fun X γ led => by simp only [VRs]) h3
  have hl : vs.length = 3 := hl
  obtain ⟨a, b, c, rfl⟩ := len3 hl
  rw [List.append_nil]
  exact BindsTo.of_eq (h4 a b c)
theorem fd_41 (w : World) : ∃ fd, fdOf (KK w) 127 = some fd ∧ defB (KK w) fd p_Levels_init = true ∧ chkSs gls0 (fun n => fd.scope.names.lookup n) b_Levels_init (bodyF fd) = true ∧ ∀ a b c, bindArgs fd ⟨[a, b, c], []⟩ = pure ((p_Levels_init.map toS).zip [a, b, c]) :=
  ⟨fdd w 127, by kernel_rfl, by kernel_rfl, by kernel_rfl, fun a b c => by kernel_rfl⟩
theorem fn_41 {C : Cfg} (K : C.Ok) (EN : EnOk C) (hK : C.K = KK C.w) : FnOk C 127 p_Levels_init [] b_Levels_init := by
  obtain ⟨fd, h1, h2, h3, h4⟩ := fd_41 C.w
  refine fn_ok (dv := []) K EN (di_of (by rw [hK]; exact h1) (by rw [hK]; exact h2) fun s vs X hl => ?_) (fun X γ led => by simp only [VRs]) h3
  have hl : vs.length = 3 := hl
  obtain ⟨a, b, c, rfl⟩ := len3 hl
  rw [List.append_nil]
  exact BindsTo.of_eq (h4 a b c)
theorem fd_42 (w : World) : ∃ fd, fdOf (KK w) 134 = some fd ∧ defB (KK w) fd p_Levels_go_on = true ∧ chkSs gls0 (fun n => fd.scope.names.lookup n) b_Levels_go_on (bodyF fd) = true ∧ ∀ a, bindArgs fd ⟨[a], []⟩ = pure ((p_Levels_go_on.map toS).zip [a]) :=
  ⟨fdd w 134, by kernel_rfl, by kernel_rfl, by kernel_rfl, fun a => by kernel_rfl⟩
theorem fn_42 {C : Cfg} (K : C.Ok) (EN : EnOk C) (hK : C.K = KK C.w) : FnOk C 134 p_Levels_go_on [] b_Levels_go_on := by
  obtain ⟨fd, h1, h2, h3, h4⟩ := fd_42 C.w
  refine fn_ok (dv := []) K EN (di_of (by rw [hK]; exact h1) (by rw [hK]; exact h2) fun s vs X hl => ?_) (fun X γ led => by simp only [VRs]) h3
  have hl : vs.length = 1 := hl
  obtain ⟨a, rfl⟩ := len1 hl
  rw [List.append_nil]
  exact BindsTo.of_eq (h4 a)
theorem fd_43 (w : World) : ∃ fd, fdOf (KK w) 219 = some fd ∧ defB (KK w) fd p_NamedRow_init = true ∧ chkSs gls0 (fun n => fd.scope.names.lookup n) b_NamedRow_init (bodyF fd) = true ∧ ∀ a b c d e, bindArgs fd ⟨[a, b, c, d, e], []⟩ = pure ((p_NamedRow_init.map toS).zip [a, b, c, d, e]) :=
  ⟨fdd w 219, by kernel_rfl, by kernel_rfl, by kernel_rfl, fun a b c d e => by kernel_rfl⟩
theorem fn_43 {C : Cfg} (K : C.Ok) (EN : EnOk C) (hK : C.K = KK C.w) : FnOk C 219 p_NamedRow_init [] b_NamedRow_init := by
  obtain ⟨fd, h1, h2, h3, h4⟩ := fd_43 C.w
  refine fn_ok (dv := []) K EN (di_of (by rw [hK]; exact h1) (by rw [hK]; exact h2) fun s vs X hl => ?_) (fun X γ led => by simp only [VRs]) h3
  have hl : vs.length = 5 := hl
  obtain ⟨a, b, c, d, e, rfl⟩ := len5 hl
  rw [List.append_nil]
  exact BindsTo.of_eq (h4 a b c d e)
theorem fd_44 (w : World) : ∃ fd, fdOf (KK w) 248 = some fd ∧ defB (KK w) fd p_World_init = true ∧ chkSs gls0 (fun n => fd.scope.names.lookup n) b_World_init (bodyF fd) = true ∧ fd.params.args.map (·.arg) = [toS n_self_, toS n_packages_] ∧ fd.params.posonlyargs = [] ∧ fd.params.kwonlyargs = [] ∧ fd.params.vararg = none ∧ fd.params.kwarg = none ∧ fd.defaults = .ref 241 ∧ (KK w).lookup 241 = some (tupO [.none] 0) :=
  ⟨fdd w 248, by kernel_rfl, by kernel_rfl, by kernel_rfl, by kernel_rfl, by kernel_rfl, by kernel_rfl, by kernel_rfl, by kernel_rfl, by kernel_rfl, by kernel_rfl⟩
theorem fn_44 {C : Cfg} (K : C.Ok) (EN : EnOk C) (hK : C.K = KK C.w) : FnOk C 248 p_World_init [.none] b_World_init := by
  obtain ⟨fd, h1, h2, h3, h4, h5, h6, h7, h8, h9, h10⟩ := fd_44 C.w
  refine fn_ok (dv := [.none]) K EN (di_of (by rw [hK]; exact h1) (by rw [hK]; exact h2) fun s vs X hl => ?_) (fun X γ led => VRs.one (by simp only [VR])) h3
  have hl : vs.length = 1 := by simpa [p_World_init] using hl
  obtain ⟨a, rfl⟩ := len1 hl
  obtain ⟨a1, a2, ha, e1, e2⟩ : ∃ a1 a2, fd.params.args = [a1, a2] ∧ a1.arg = toS n_self_ ∧ a2.arg = toS n_packages_ := by
    revert h4
    generalize fd.params.args = l
    intro h4
    match l, h4 with
    | [a1, a2], h4 => simp only [List.map_cons, List.map_nil, List.cons.injEq] at h4; exact ⟨a1, a2, rfl, h4.1, h4.2.1⟩
    | [], h4 => simp at h4
    | [_], h4 => simp at h4
    | _ :: _ :: _ :: _, h4 => simp at h4
  obtain ⟨k, k1, k2⟩ := wbind ha h5 h6 h7 h8 e1 e2 h9 a
  exact binds_K X h9 (by rw [hK]; exact h10) rfl k1 k2
theorem fd_45 (w : World) : ∃ fd, fdOf (KK w) 255 = some fd ∧ defB (KK w) fd p_World_base_of = true ∧ chkSs gls0 (fun n => fd.scope.names.lookup n) b_World_base_of (bodyF fd) = true ∧ ∀ a b, bindArgs fd ⟨[a, b], []⟩ = pure ((p_World_base_of.map toS).zip [a, b]) :=
  ⟨fdd w 255, by kernel_rfl, by kernel_rfl, by kernel_rfl, fun a b => by kernel_rfl⟩
theorem fn_45 {C : Cfg} (K : C.Ok) (EN : EnOk C) (hK : C.K = KK C.w) : FnOk C 255 p_World_base_of [] b_World_base_of := by
  obtain ⟨fd, h1, h2, h3, h4⟩ := fd_45 C.w
  refine fn_ok (dv := []) K EN (di_of (by rw [hK]; exact h1) (by rw [hK]; exact h2) fun s vs X hl => ?_) (fun X γ led => by simp only [VRs]) h3
  have hl : vs.length = 2 := hl
  obtain ⟨a, b, rfl⟩ := len2 hl
  rw [List.append_nil]
  exact BindsTo.of_eq (h4 a b)
end
section
noncomputable def lkT {α : Type} : List (Nat × α) → Nat → Option α
  | [], _ => none
  | p :: r, i => bif Nat.beq p.1 i then some p.2 else lkT r i
theorem lkT_ok {α : Type} {P : Nat → α → Prop} : ∀ {l : List (Nat × α)}, (∀ e ∈ l, P e.1 e.2) → ∀ {i : Nat} {f : α}, lkT l i = some f → P i f
  | [], _, i, f, h => nsM h
  | p :: r, H, i, f, h => by
    have h : (bif Nat.beq p.1 i then some p.2 else lkT r i) = some f := h
    cases q : Nat.beq p.1 i with
    | true =>
      rw [q] at h
      cases h
      rw [← Nat.eq_of_beq_eq_true q]
      exact H p (.head _)
    | false =>
      rw [q] at h
      exact lkT_ok (fun e he => H e (.tail _ he)) h
theorem all_nil {α : Type} {P : α → Prop} : ∀ e ∈ ([] : List α), P e := fun e h => nomatch h
theorem all_cons {α : Type} {P : α → Prop} {a : α} {l : List α} (h : P a) (t : ∀ e ∈ l, P e) : ∀ e ∈ a :: l, P e := fun e he => by
  rcases List.mem_cons.mp he with q | q
  · rw [q]; exact h
  · exact t e q
noncomputable def gvL : List (Nat × Value) := [(0, .ref 94), (1, .ref 101), (2, .ref 106), (3, .ref 113), (4, .ref 148), (5, .ref 155), (6, .ref 162), (7, .ref 169), (8, .ref 174), (9, .ref 181), (10, .ref 188), (11, .ref 195), (12, .ref 202), (13, .ref 233), (14, .ref 276), (15, .ref 283), (16, .ref 290), (17, .ref 297), (18, .ref 306), (19, .ref 311), (20, .ref 318), (21, .ref 325), (22, .ref 330), (23, .ref 337), (24, .ref 344), (40, .ref 80), (41, .ref 127), (42, .ref 134), (43, .ref 219), (44, .ref 248), (45, .ref 255), (30, .ref 83), (31, .ref 137), (32, .ref 222), (33, .ref 265), (50, .builtin "len"), (51, .builtin "sorted"), (52, .type "dict"), (53, .type "tuple"), (54, .type "int"), (55, .builtin "max"), (56, .builtin "min"), (57, .type "enumerate"), (58, .type "range")]
noncomputable def gv0 (i : Nat) : Value := (lkT gvL i).getD .none
noncomputable def cl0 (i : Nat) : Addr := (lkT [(30, 83), (31, 137), (32, 222), (33, 265)] i).getD 0
noncomputable def flL : List (Nat × List Nm) := [(30, [n_told_, n_steps_]), (31, [n_world_, n_here_, n_seen_]), (32, [n_path_, n_package_, n_underlying_, n_methods_]), (33, [n_packages_, n_named_, n_globals_, n_consts_, n_funcs_, n_bodies_, n_files_, n_scopes_, n_order_, n_starts_, n_settle_, n_late_keys_, n_is_whole_])]
noncomputable def fl0 (i : Nat) : List Nm := (lkT flL i).getD []
noncomputable def mm0 (c : Nat) (n : Nm) : Option Nat := omM (Nat.beq c 31) (otM (eqN n n_go_on_) (some 42)) (otM (Nat.beq c 33) <| otM (eqN n n_base_of_) (some 45))
structure Std (C : Cfg) : Prop where
  ok : C.Ok
  K : C.K = KK C.w
  S : ∀ a o, (KK C.w).lookup a = some o → C.S.lookup a = some o
  mb : ∀ x : PySem.Str, x ≠ "__name__" → C.mb x = bootBuiltins x
  gv : ∀ i, i < 60 → C.gval i = gv0 i
  cl : C.cls = cl0
theorem Std.bi {C : Cfg} (T : Std C) : BiOk C :=
  ⟨T.gv _ (by decide), T.gv _ (by decide), T.gv _ (by decide), T.gv _ (by decide), T.gv _ (by decide), T.gv _ (by decide), T.gv _ (by decide), T.gv _ (by decide), T.gv _ (by decide)⟩
theorem std_gl {C : Cfg} (T : Std C) {x : Nm} {i : Nat} (hi : i < 60) (e : nsIn (KK C.w) mainGlobals (toS x) = some (some (gv0 i))) : GlobIs C x (.g i) := by
  refine ⟨gv0 i, .inl (mg_of (by rw [← T.K]; exact T.ok.k) T.ok.g e), fun X γ led => ?_⟩
  simp only [VR]
  exact (T.gv i hi).symm
theorem std_bl {C : Cfg} (T : Std C) {x : Nm} {i : Nat} (hi : i < 60) (e : nsIn (KK C.w) mainGlobals (toS x) = some none) (b : bootBuiltins (toS x) = some (gv0 i)) (hn : toS x ≠ "__name__") : GlobIs C x (.g i) := by
  refine ⟨gv0 i, .inr ⟨mg_none_of (by rw [← T.K]; exact T.ok.k) T.ok.g e, (T.mb _ hn).trans b⟩, fun X γ led => ?_⟩
  simp only [VR]
  exact (T.gv i hi).symm
theorem std_cl {C : Cfg} (T : Std C) {x : Nm} {av : AV} {a : Addr} (e : nsIn (KK C.w) mainGlobals (toS x) = some (some (.ref a))) (h : ∀ X γ led, VR C X γ led av (.ref a)) : GlobIs C x av :=
  ⟨.ref a, .inl (mg_of (by rw [← T.K]; exact T.ok.k) T.ok.g e), h⟩
theorem std_en {C : Cfg} (T : Std C) : EnOk C :=
  ⟨std_bl (x := [101, 110, 117, 109, 101, 114, 97, 116, 101]) T (by decide) (by kernel_rfl) (by kernel_rfl) (by decide +kernel), std_bl (x := [114, 97, 110, 103, 101]) T (by decide) (by kernel_rfl) (by kernel_rfl) (by decide +kernel), T.gv _ (by decide), T.gv _ (by decide)⟩
theorem std_tup {C : Cfg} (T : Std C) {a : Addr} {vs : List Value} {n : Nat} {xs : List AV} (e : (KK C.w).lookup a = some (tupO vs n)) (X γ : List Addr) (led : Led) (h : VRs C X γ led xs vs) : VR C X γ led (.tup xs) (.ref a) := by
  simp only [VR]
  exact ⟨a, vs, n, rfl, .inl (T.S _ _ e), h⟩
theorem std_num {C : Cfg} (T : Std C) : GlobIs C n__law_number_ (.tup [.str n_named_, .str n_m_N_]) :=
  std_cl T (a := 298) (by kernel_rfl) fun X γ led => std_tup T (vs := [.str (toS n_named_) 613, .str (toS n_m_N_) 614]) (n := 0) (by kernel_rfl) X γ led (by simp only [VRs, VR]; exact ⟨_, _, rfl, ⟨_, rfl⟩, _, _, rfl, ⟨_, rfl⟩, rfl⟩)
theorem std_hol {C : Cfg} (T : Std C) : GlobIs C n__law_holder_ (.tup [.str n_named_, .str n_m_H_]) :=
  std_cl T (a := 299) (by kernel_rfl) fun X γ led => std_tup T (vs := [.str (toS n_named_) 616, .str (toS n_m_H_) 617]) (n := 0) (by kernel_rfl) X γ led (by simp only [VRs, VR]; exact ⟨_, _, rfl, ⟨_, rfl⟩, _, _, rfl, ⟨_, rfl⟩, rfl⟩)
theorem std_plain {C : Cfg} (T : Std C) : GlobIs C n_PLAIN_ (.tup [.str n_func_, .tup [], .tup [], .bool false]) :=
  std_cl T (a := 205) (by kernel_rfl) fun X γ led => std_tup T (vs := [.str (toS n_func_) 470, .ref 203, .ref 204, .bool false]) (n := 0) (by kernel_rfl) X γ led (VRs.cons (by simp only [VR]; exact ⟨_, rfl⟩) (VRs.cons (std_tup T (vs := []) (n := 0) (by kernel_rfl) X γ led (by simp only [VRs])) (VRs.cons (std_tup T (vs := []) (n := 0) (by kernel_rfl) X γ led (by simp only [VRs])) (VRs.one (by simp only [VR])))))
theorem glb_0 {C : Cfg} (T : Std C) : GlobIs C n_own_methods_ (.g 1) := std_gl T (by decide) (by kernel_rfl)
theorem glb_1 {C : Cfg} (T : Std C) : GlobIs C n_Reached_ (.g 30) := std_gl T (by decide) (by kernel_rfl)
theorem glb_2 {C : Cfg} (T : Std C) : GlobIs C n_without_pointer_ (.g 0) := std_gl T (by decide) (by kernel_rfl)
theorem glb_3 {C : Cfg} (T : Std C) : GlobIs C n_embedded_in_ (.g 3) := std_gl T (by decide) (by kernel_rfl)
theorem glb_4 {C : Cfg} (T : Std C) : GlobIs C n_len_ (.g 50) := std_bl T (by decide) (by kernel_rfl) (by kernel_rfl) (by decide +kernel)
theorem glb_5 {C : Cfg} (T : Std C) : GlobIs C n_members_at_ (.g 2) := std_gl T (by decide) (by kernel_rfl)
theorem glb_6 {C : Cfg} (T : Std C) : GlobIs C n_Levels_ (.g 31) := std_gl T (by decide) (by kernel_rfl)
theorem glb_7 {C : Cfg} (T : Std C) : GlobIs C n_start_type_ (.g 4) := std_gl T (by decide) (by kernel_rfl)
theorem glb_8 {C : Cfg} (T : Std C) : GlobIs C n_sorted_ (.g 51) := std_bl T (by decide) (by kernel_rfl) (by kernel_rfl) (by decide +kernel)
theorem glb_9 {C : Cfg} (T : Std C) : GlobIs C n_find_member_ (.g 5) := std_gl T (by decide) (by kernel_rfl)
theorem glb_10 {C : Cfg} (T : Std C) : GlobIs C n_names_of_methods_ (.g 6) := std_gl T (by decide) (by kernel_rfl)
theorem glb_11 {C : Cfg} (T : Std C) : GlobIs C n_is_in_set_ (.g 8) := std_gl T (by decide) (by kernel_rfl)
theorem glb_12 {C : Cfg} (T : Std C) : GlobIs C n_member_or_none_ (.g 7) := std_gl T (by decide) (by kernel_rfl)
theorem glb_13 {C : Cfg} (T : Std C) : GlobIs C n_method_set_ (.g 9) := std_gl T (by decide) (by kernel_rfl)
theorem glb_14 {C : Cfg} (T : Std C) : GlobIs C n_lack_of_ (.g 10) := std_gl T (by decide) (by kernel_rfl)
theorem glb_15 {C : Cfg} (T : Std C) : GlobIs C n_implements_ (.g 11) := std_gl T (by decide) (by kernel_rfl)
theorem glb_16 {C : Cfg} (T : Std C) : GlobIs C n_NamedRow_ (.g 32) := std_gl T (by decide) (by kernel_rfl)
theorem glb_17 {C : Cfg} (T : Std C) : GlobIs C n_PLAIN_ ((.tup [.str n_func_, .tup [], .tup [], .bool false])) := std_plain T
theorem glb_18 {C : Cfg} (T : Std C) : GlobIs C n_known_rows_ (.g 13) := std_gl T (by decide) (by kernel_rfl)
theorem glb_19 {C : Cfg} (T : Std C) : GlobIs C n_int_ (.g 54) := std_bl T (by decide) (by kernel_rfl) (by kernel_rfl) (by decide +kernel)
theorem glb_20 {C : Cfg} (T : Std C) : GlobIs C n_max_ (.g 55) := std_bl T (by decide) (by kernel_rfl) (by kernel_rfl) (by decide +kernel)
theorem glb_21 {C : Cfg} (T : Std C) : GlobIs C n__law_take_ (.g 15) := std_gl T (by decide) (by kernel_rfl)
theorem glb_22 {C : Cfg} (T : Std C) : GlobIs C n__law_one_ (.g 16) := std_gl T (by decide) (by kernel_rfl)
theorem glb_23 {C : Cfg} (T : Std C) : GlobIs C n_tuple_ (.g 53) := std_bl T (by decide) (by kernel_rfl) (by kernel_rfl) (by decide +kernel)
theorem glb_24 {C : Cfg} (T : Std C) : GlobIs C n__law_sorts_ (.g 17) := std_gl T (by decide) (by kernel_rfl)
theorem glb_25 {C : Cfg} (T : Std C) : GlobIs C n__law_number_ ((.tup [.str n_named_, .str n_m_N_])) := std_num T
theorem glb_26 {C : Cfg} (T : Std C) : GlobIs C n_dict_ (.g 52) := std_bl T (by decide) (by kernel_rfl) (by kernel_rfl) (by decide +kernel)
theorem glb_27 {C : Cfg} (T : Std C) : GlobIs C n_World_ (.g 33) := std_gl T (by decide) (by kernel_rfl)
theorem glb_28 {C : Cfg} (T : Std C) : GlobIs C n_satisfied_ (.g 12) := std_gl T (by decide) (by kernel_rfl)
theorem glb_29 {C : Cfg} (T : Std C) : GlobIs C n__law_is_so_ (.g 23) := std_gl T (by decide) (by kernel_rfl)
theorem glb_30 {C : Cfg} (T : Std C) : GlobIs C n_min_ (.g 56) := std_bl T (by decide) (by kernel_rfl) (by kernel_rfl) (by decide +kernel)
theorem glb_31 {C : Cfg} (T : Std C) : GlobIs C n__law_due_ (.g 21) := std_gl T (by decide) (by kernel_rfl)
theorem glb_32 {C : Cfg} (T : Std C) : GlobIs C n__law_seen_ (.g 20) := std_gl T (by decide) (by kernel_rfl)
theorem glb_33 {C : Cfg} (T : Std C) : GlobIs C n__law_asked_ (.g 22) := std_gl T (by decide) (by kernel_rfl)
theorem glb_34 {C : Cfg} (T : Std C) : GlobIs C n__law_holder_ ((.tup [.str n_named_, .str n_m_H_])) := std_hol T
theorem glb_35 {C : Cfg} (T : Std C) : GlobIs C n__law_built_ (.g 19) := std_gl T (by decide) (by kernel_rfl)
theorem glb_36 {C : Cfg} (T : Std C) : GlobIs C n__law_marks_ (.g 18) := std_gl T (by decide) (by kernel_rfl)
theorem glb_37 {C : Cfg} (T : Std C) : GlobIs C n__law_pool_ (.g 14) := std_gl T (by decide) (by kernel_rfl)
theorem std_gls {C : Cfg} (T : Std C) : ∀ (i : Nat) (p : Nm × AV), gls0[i]? = some p → GlobIs C p.1 p.2 := fun i p h =>
  (show ∀ p ∈ gls0, GlobIs C p.1 p.2 from (all_cons (glb_0 T) (all_cons (glb_1 T) (all_cons (glb_2 T) (all_cons (glb_3 T) (all_cons (glb_4 T) (all_cons (glb_5 T) (all_cons (glb_6 T) (all_cons (glb_7 T) (all_cons (glb_8 T) (all_cons (glb_9 T) (all_cons (glb_10 T) (all_cons (glb_11 T) (all_cons (glb_12 T) (all_cons (glb_13 T) (all_cons (glb_14 T) (all_cons (glb_15 T) (all_cons (glb_16 T) (all_cons (glb_17 T) (all_cons (glb_18 T) (all_cons (glb_19 T) (all_cons (glb_20 T) (all_cons (glb_21 T) (all_cons (glb_22 T) (all_cons (glb_23 T) (all_cons (glb_24 T) (all_cons (glb_25 T) (all_cons (glb_26 T) (all_cons (glb_27 T) (all_cons (glb_28 T) (all_cons (glb_29 T) (all_cons (glb_30 T) (all_cons (glb_31 T) (all_cons (glb_32 T) (all_cons (glb_33 T) (all_cons (glb_34 T) (all_cons (glb_35 T) (all_cons (glb_36 T) (all_cons (glb_37 T) all_nil))))))))))))))))))))))))))))))))))))))) p (List.mem_of_getElem? h)
theorem hasN_mem {l : List Nm} {n : Nm} : hasN l n = true → n ∈ l := by
  induction l with
  | nil => intro h; cases h
  | cons k r ih =>
    intro h
    simp only [hasN, Bool.or_eq_true] at h
    rcases h with h | h
    · rw [eqN_iff.mp h]; exact .head _
    · exact .tail _ (ih h)
noncomputable def isNN {α : Type} (x : Option (Option α)) : Bool := Option.rec (motive := fun _ => Bool) false (fun x => Option.rec (motive := fun _ => Bool) true (fun _ => false) x) x
theorem isNN_ok {α : Type} {x : Option (Option α)} (h : isNN x = true) : x = some none := by
  rcases x with _ | _ | x
  · exact nfB h
  · rfl
  · exact nfB h
noncomputable def biV (v : Value) : Bool := match v with
  | .builtin s => decide (s = "object.__setattr__")
  | _ => false
noncomputable def isBi (x : Option (Option Value)) : Bool := Option.rec (motive := fun _ => Bool) false (fun x => Option.rec (motive := fun _ => Bool) false biV x) x
theorem isBi_ok {x : Option (Option Value)} (h : isBi x = true) : x = some (some (.builtin "object.__setattr__")) := by
  rcases x with _ | _ | x
  · exact nfB h
  · exact nfB h
  · cases x <;> first | exact nfB h | exact congrArg (fun s => some (some (Value.builtin s))) (of_decide_eq_true h)
noncomputable def clgB (K : Frag) (a : Addr) (n : Nm) : Bool :=
  ((isNN (findIn K (.ref a) (toS n))).and ((plainGet K a (toS n)).and (hasDictIn K a))).and ((isBi (findIn K (.ref a) "__setattr__")).and ((plainOver K a).and (isNN (takerIn K a (toS n)))))
theorem clg_30 (w : World) : ∀ n ∈ (fl0 30), clgB (KK w) (cl0 30) n = true := List.all_eq_true.mp (show ((fl0 30)).all (clgB (KK w) (cl0 30)) = true by kernel_rfl)
theorem clg_31 (w : World) : ∀ n ∈ (fl0 31), clgB (KK w) (cl0 31) n = true := List.all_eq_true.mp (show ((fl0 31)).all (clgB (KK w) (cl0 31)) = true by kernel_rfl)
theorem clg_32 (w : World) : ∀ n ∈ (fl0 32), clgB (KK w) (cl0 32) n = true := List.all_eq_true.mp (show ((fl0 32)).all (clgB (KK w) (cl0 32)) = true by kernel_rfl)
theorem clg_33 (w : World) : ∀ n ∈ (fl0 33), clgB (KK w) (cl0 33) n = true := List.all_eq_true.mp (show ((fl0 33)).all (clgB (KK w) (cl0 33)) = true by kernel_rfl)
theorem std_cls {C : Cfg} (T : Std C) : ClsOk C fl0 := by
  have main : ∀ c n, hasN (fl0 c) n = true → clgB C.K (C.cls c) n = true := by
    intro c n h
    rw [T.K, T.cl]
    cases q : lkT flL c with
    | none =>
      have e : fl0 c = [] := by show (lkT flL c).getD [] = []; rw [q]; rfl
      rw [e] at h
      exact nfB h
    | some l =>
      have e : fl0 c = l := by show (lkT flL c).getD [] = l; rw [q]; rfl
      rw [e] at h
      exact lkT_ok (P := fun c l => ∀ n ∈ l, clgB (KK C.w) (cl0 c) n = true) (l := flL) (all_cons (clg_30 C.w) (all_cons (clg_31 C.w) (all_cons (clg_32 C.w) (all_cons (clg_33 C.w) all_nil)))) q n (hasN_mem h)
  refine ⟨fun c n h => ?_, fun c n h => ?_⟩
  · obtain ⟨g, _⟩ := and2 (main c n h)
    obtain ⟨g1, g⟩ := and2 g
    obtain ⟨g2, g3⟩ := and2 g
    exact ⟨isNN_ok g1, g2, g3⟩
  · obtain ⟨_, g⟩ := and2 (main c n h)
    obtain ⟨g1, g⟩ := and2 g
    obtain ⟨g2, g3⟩ := and2 g
    exact ⟨isBi_ok g1, g2, isNN_ok g3⟩
theorem std_meth {C : Cfg} (T : Std C) : ∀ c x g, mm0 c x = some g → ∃ f, C.gval g = .ref f ∧ plainGet C.K (C.cls c) (toS x) = true ∧ findIn C.K (.ref (C.cls c)) (toS x) = some (some (.ref f)) ∧ isFn C.K (.ref f) = true := by
  intro c x g h
  refine om h (fun q h => ot h fun e h => ?_) fun _ h => ot h fun q h => ot h fun e h => ?_
  · cases Nat.eq_of_beq_eq_true q
    cases eqN_iff.mp e
    cases h
    exact ⟨134, T.gv 42 (by decide), by rw [T.K, T.cl]; kernel_rfl, by rw [T.K, T.cl]; kernel_rfl, by rw [T.K]; kernel_rfl⟩
  · cases Nat.eq_of_beq_eq_true q
    cases eqN_iff.mp e
    cases h
    exact ⟨255, T.gv 45 (by decide), by rw [T.K, T.cl]; kernel_rfl, by rw [T.K, T.cl]; kernel_rfl, by rw [T.K]; kernel_rfl⟩
theorem kp_0 {C : Cfg} (T : Std C) : KeepsF C (C.gval 0) := by rw [T.gv 0 (by decide)]; exact keeps_ref (by rw [T.K]; kernel_rfl)
theorem kp_1 {C : Cfg} (T : Std C) : KeepsF C (C.gval 1) := by rw [T.gv 1 (by decide)]; exact keeps_ref (by rw [T.K]; kernel_rfl)
theorem kp_2 {C : Cfg} (T : Std C) : KeepsF C (C.gval 2) := by rw [T.gv 2 (by decide)]; exact keeps_ref (by rw [T.K]; kernel_rfl)
theorem kp_3 {C : Cfg} (T : Std C) : KeepsF C (C.gval 3) := by rw [T.gv 3 (by decide)]; exact keeps_ref (by rw [T.K]; kernel_rfl)
theorem kp_4 {C : Cfg} (T : Std C) : KeepsF C (C.gval 4) := by rw [T.gv 4 (by decide)]; exact keeps_ref (by rw [T.K]; kernel_rfl)
theorem kp_5 {C : Cfg} (T : Std C) : KeepsF C (C.gval 5) := by rw [T.gv 5 (by decide)]; exact keeps_ref (by rw [T.K]; kernel_rfl)
theorem kp_6 {C : Cfg} (T : Std C) : KeepsF C (C.gval 6) := by rw [T.gv 6 (by decide)]; exact keeps_ref (by rw [T.K]; kernel_rfl)
theorem kp_7 {C : Cfg} (T : Std C) : KeepsF C (C.gval 7) := by rw [T.gv 7 (by decide)]; exact keeps_ref (by rw [T.K]; kernel_rfl)
theorem kp_8 {C : Cfg} (T : Std C) : KeepsF C (C.gval 8) := by rw [T.gv 8 (by decide)]; exact keeps_ref (by rw [T.K]; kernel_rfl)
theorem kp_9 {C : Cfg} (T : Std C) : KeepsF C (C.gval 9) := by rw [T.gv 9 (by decide)]; exact keeps_ref (by rw [T.K]; kernel_rfl)
theorem kp_10 {C : Cfg} (T : Std C) : KeepsF C (C.gval 10) := by rw [T.gv 10 (by decide)]; exact keeps_ref (by rw [T.K]; kernel_rfl)
theorem kp_11 {C : Cfg} (T : Std C) : KeepsF C (C.gval 11) := by rw [T.gv 11 (by decide)]; exact keeps_ref (by rw [T.K]; kernel_rfl)
theorem kp_12 {C : Cfg} (T : Std C) : KeepsF C (C.gval 12) := by rw [T.gv 12 (by decide)]; exact keeps_ref (by rw [T.K]; kernel_rfl)
theorem kp_13 {C : Cfg} (T : Std C) : KeepsF C (C.gval 13) := by rw [T.gv 13 (by decide)]; exact keeps_ref (by rw [T.K]; kernel_rfl)
theorem kp_14 {C : Cfg} (T : Std C) : KeepsF C (C.gval 14) := by rw [T.gv 14 (by decide)]; exact keeps_ref (by rw [T.K]; kernel_rfl)
theorem kp_15 {C : Cfg} (T : Std C) : KeepsF C (C.gval 15) := by rw [T.gv 15 (by decide)]; exact keeps_ref (by rw [T.K]; kernel_rfl)
theorem kp_16 {C : Cfg} (T : Std C) : KeepsF C (C.gval 16) := by rw [T.gv 16 (by decide)]; exact keeps_ref (by rw [T.K]; kernel_rfl)
theorem kp_17 {C : Cfg} (T : Std C) : KeepsF C (C.gval 17) := by rw [T.gv 17 (by decide)]; exact keeps_ref (by rw [T.K]; kernel_rfl)
theorem kp_18 {C : Cfg} (T : Std C) : KeepsF C (C.gval 18) := by rw [T.gv 18 (by decide)]; exact keeps_ref (by rw [T.K]; kernel_rfl)
theorem kp_19 {C : Cfg} (T : Std C) : KeepsF C (C.gval 19) := by rw [T.gv 19 (by decide)]; exact keeps_ref (by rw [T.K]; kernel_rfl)
theorem kp_20 {C : Cfg} (T : Std C) : KeepsF C (C.gval 20) := by rw [T.gv 20 (by decide)]; exact keeps_ref (by rw [T.K]; kernel_rfl)
theorem kp_21 {C : Cfg} (T : Std C) : KeepsF C (C.gval 21) := by rw [T.gv 21 (by decide)]; exact keeps_ref (by rw [T.K]; kernel_rfl)
theorem kp_22 {C : Cfg} (T : Std C) : KeepsF C (C.gval 22) := by rw [T.gv 22 (by decide)]; exact keeps_ref (by rw [T.K]; kernel_rfl)
theorem kp_23 {C : Cfg} (T : Std C) : KeepsF C (C.gval 23) := by rw [T.gv 23 (by decide)]; exact keeps_ref (by rw [T.K]; kernel_rfl)
theorem kp_24 {C : Cfg} (T : Std C) : KeepsF C (C.gval 24) := by rw [T.gv 24 (by decide)]; exact keeps_ref (by rw [T.K]; kernel_rfl)
theorem kp_40 {C : Cfg} (T : Std C) : KeepsF C (C.gval 40) := by rw [T.gv 40 (by decide)]; exact keeps_ref (by rw [T.K]; kernel_rfl)
theorem kp_41 {C : Cfg} (T : Std C) : KeepsF C (C.gval 41) := by rw [T.gv 41 (by decide)]; exact keeps_ref (by rw [T.K]; kernel_rfl)
theorem kp_42 {C : Cfg} (T : Std C) : KeepsF C (C.gval 42) := by rw [T.gv 42 (by decide)]; exact keeps_ref (by rw [T.K]; kernel_rfl)
theorem kp_43 {C : Cfg} (T : Std C) : KeepsF C (C.gval 43) := by rw [T.gv 43 (by decide)]; exact keeps_ref (by rw [T.K]; kernel_rfl)
theorem kp_44 {C : Cfg} (T : Std C) : KeepsF C (C.gval 44) := by rw [T.gv 44 (by decide)]; exact keeps_ref (by rw [T.K]; kernel_rfl)
theorem kp_45 {C : Cfg} (T : Std C) : KeepsF C (C.gval 45) := by rw [T.gv 45 (by decide)]; exact keeps_ref (by rw [T.K]; kernel_rfl)
theorem kp_30 {C : Cfg} (T : Std C) : KeepsF C (C.gval 30) := by rw [T.gv 30 (by decide)]; exact keeps_ref (by rw [T.K]; kernel_rfl)
theorem kp_31 {C : Cfg} (T : Std C) : KeepsF C (C.gval 31) := by rw [T.gv 31 (by decide)]; exact keeps_ref (by rw [T.K]; kernel_rfl)
theorem kp_32 {C : Cfg} (T : Std C) : KeepsF C (C.gval 32) := by rw [T.gv 32 (by decide)]; exact keeps_ref (by rw [T.K]; kernel_rfl)
theorem kp_33 {C : Cfg} (T : Std C) : KeepsF C (C.gval 33) := by rw [T.gv 33 (by decide)]; exact keeps_ref (by rw [T.K]; kernel_rfl)
theorem cl_30 {C : Cfg} (T : Std C) {nd : Nat} {args : List AV} {o o' : Objs} (h : SCc C nd (C.gval 40) (.ref (o.length + 1) :: args) (o ++ [.dict [] [] (some 0), .inst 30 o.length]) .none o') : SCc C (nd + 1) (C.gval 30) args o (.ref (o.length + 1)) o' := by
  rw [T.gv 40 (by decide)] at h
  rw [T.gv 30 (by decide)]
  exact cls_code T.ok (by rw [T.cl]; rfl) (by rw [T.K]; kernel_rfl) (by rw [T.K]; kernel_rfl) (by rw [T.K]; kernel_rfl) h
theorem cl_31 {C : Cfg} (T : Std C) {nd : Nat} {args : List AV} {o o' : Objs} (h : SCc C nd (C.gval 41) (.ref (o.length + 1) :: args) (o ++ [.dict [] [] (some 0), .inst 31 o.length]) .none o') : SCc C (nd + 1) (C.gval 31) args o (.ref (o.length + 1)) o' := by
  rw [T.gv 41 (by decide)] at h
  rw [T.gv 31 (by decide)]
  exact cls_code T.ok (by rw [T.cl]; rfl) (by rw [T.K]; kernel_rfl) (by rw [T.K]; kernel_rfl) (by rw [T.K]; kernel_rfl) h
theorem cl_32 {C : Cfg} (T : Std C) {nd : Nat} {args : List AV} {o o' : Objs} (h : SCc C nd (C.gval 43) (.ref (o.length + 1) :: args) (o ++ [.dict [] [] (some 0), .inst 32 o.length]) .none o') : SCc C (nd + 1) (C.gval 32) args o (.ref (o.length + 1)) o' := by
  rw [T.gv 43 (by decide)] at h
  rw [T.gv 32 (by decide)]
  exact cls_code T.ok (by rw [T.cl]; rfl) (by rw [T.K]; kernel_rfl) (by rw [T.K]; kernel_rfl) (by rw [T.K]; kernel_rfl) h
theorem cl_33 {C : Cfg} (T : Std C) {nd : Nat} {args : List AV} {o o' : Objs} (h : SCc C nd (C.gval 44) (.ref (o.length + 1) :: args) (o ++ [.dict [] [] (some 0), .inst 33 o.length]) .none o') : SCc C (nd + 1) (C.gval 33) args o (.ref (o.length + 1)) o' := by
  rw [T.gv 44 (by decide)] at h
  rw [T.gv 33 (by decide)]
  exact cls_code T.ok (by rw [T.cl]; rfl) (by rw [T.K]; kernel_rfl) (by rw [T.K]; kernel_rfl) (by rw [T.K]; kernel_rfl) h
end
section
theorem SC.mono {C : Cfg} {a b : Nat} {f : Value} {args : List AV} {o o' : Objs} {r : AV} (h : SC C a f args o r o') (hb : a ≤ b) : SC C b f args o r o' :=
  fun A s X γ led vs Q E R ne H Rl hv hQ => h A s X γ led vs Q E (R.le hb) ne H Rl hv hQ
theorem SCc.mono {C : Cfg} {a b : Nat} {f : Value} {args : List AV} {o o' : Objs} {r : AV} (h : SCc C a f args o r o') (hb : a ≤ b) : SCc C b f args o r o' :=
  fun A s X γ led vs Q R ne H Rl hv hQ => h A s X γ led vs Q (R.le hb) ne H Rl hv hQ
noncomputable def run (O : Orc) (p : List Nm) (da : List AV) (m : MSs) (as : List AV) (o : Objs) : Option (AV × Objs) :=
  otM (Nat.beq (as.length + da.length) p.length) <| obM (exSs O m (p.zip (as ++ da)) o) fun fl q => some (retOf fl, q.2)
theorem run_ok {C : Cfg} {a : Addr} {pn : List Nm} {da : List AV} {m : MSs} {nd : Nat} {O : Orc} {as : List AV} {o o' : Objs} {r : AV} (F : FnOk C a pn da m) (OK : OrcOk C nd O) (hg : O.gls = gls0) (h : run O pn da m as o = some (r, o')) : SCc C (nd + 1) (.ref a) as o r o' :=
  ot h fun q h => ob h fun fl p e h => oq h (F nd O OK hg _ _ _ _ _ (Nat.eq_of_beq_eq_true q) e)
structure Fn where
  p : List Nm
  da : List AV
  b : MSs
noncomputable def tblL : List (Nat × Fn) := [(0, ⟨p_without_pointer, [], b_without_pointer⟩), (1, ⟨p_own_methods, [], b_own_methods⟩), (2, ⟨p_members_at, [], b_members_at⟩), (3, ⟨p_embedded_in, [], b_embedded_in⟩), (4, ⟨p_start_type, [], b_start_type⟩), (5, ⟨p_find_member, [], b_find_member⟩), (6, ⟨p_names_of_methods, [], b_names_of_methods⟩), (7, ⟨p_member_or_none, [], b_member_or_none⟩), (8, ⟨p_is_in_set, [], b_is_in_set⟩), (9, ⟨p_method_set, [], b_method_set⟩), (10, ⟨p_lack_of, [], b_lack_of⟩), (11, ⟨p_implements, [], b_implements⟩), (12, ⟨p_satisfied, [], b_satisfied⟩), (13, ⟨p_known_rows, [], b_known_rows⟩), (14, ⟨p__law_pool, [], b__law_pool⟩), (15, ⟨p__law_take, [], b__law_take⟩), (16, ⟨p__law_one, [], b__law_one⟩), (17, ⟨p__law_sorts, [], b__law_sorts⟩), (18, ⟨p__law_marks, [], b__law_marks⟩), (19, ⟨p__law_built, [], b__law_built⟩), (20, ⟨p__law_seen, [], b__law_seen⟩), (21, ⟨p__law_due, [], b__law_due⟩), (22, ⟨p__law_asked, [], b__law_asked⟩), (23, ⟨p__law_is_so, [], b__law_is_so⟩), (24, ⟨p_law, [], b_law⟩), (40, ⟨p_Reached_init, [], b_Reached_init⟩), (41, ⟨p_Levels_init, [], b_Levels_init⟩), (42, ⟨p_Levels_go_on, [], b_Levels_go_on⟩), (43, ⟨p_NamedRow_init, [], b_NamedRow_init⟩), (44, ⟨p_World_init, [.none], b_World_init⟩), (45, ⟨p_World_base_of, [], b_World_base_of⟩)]
noncomputable def tbl (i : Nat) : Option Fn := lkT tblL i
noncomputable def initL : List (Nat × Nat) := [(30, 40), (31, 41), (32, 43), (33, 44)]
noncomputable def initOf (i : Nat) : Option Nat := lkT initL i
noncomputable abbrev Base := Nat → List AV → Objs → Option (AV × Objs)
noncomputable def noneB (v : AV) : Bool := match v with
  | .none => true
  | _ => false
noncomputable def callT (O : Orc) (i : Nat) (as : List AV) (o : Objs) : Option (AV × Objs) :=
  oeM (tbl i) (fun f => run O f.p f.da f.b as o)
    (oeM (initOf i) (fun j => oaM (tbl j) fun f => obM (run O f.p f.da f.b (.ref (o.length + 1) :: as) (o ++ [.dict [] [] (some 0), .inst i o.length])) fun r o' => otM (noneB r) (some (.ref (o.length + 1), o'))) (bi i as o))
noncomputable def orcX (base : Base) : Nat → Orc
  | 0 => ⟨fun i as o => oeM (base i as o) (fun r => some r) (bi i as o), mm0, gls0, fl0⟩
  | n + 1 => ⟨fun i as o => oeM (base i as o) (fun r => some r) (callT (orcX base n) i as o), mm0, gls0, fl0⟩
noncomputable def BaseOk (C : Cfg) (nd : Nat) (base : Base) : Prop := ∀ i as o r o', base i as o = some (r, o') → SC C nd (C.gval i) as o r o' ∧ KeepsF C (C.gval i)
noncomputable abbrev TblOk (C : Cfg) (i : Nat) (f : Fn) : Prop := ∃ a, C.gval i = .ref a ∧ FnOk C a f.p f.da f.b ∧ KeepsF C (C.gval i)
theorem tbl_ok {C : Cfg} (T : Std C) {i : Nat} {f : Fn} (h : tbl i = some f) : ∃ a, C.gval i = .ref a ∧ FnOk C a f.p f.da f.b ∧ KeepsF C (C.gval i) :=
  lkT_ok (P := TblOk C) (l := tblL) (all_cons ⟨94, T.gv 0 (by decide), fn_0 T.ok (std_en T) T.K, kp_0 T⟩ (all_cons ⟨101, T.gv 1 (by decide), fn_1 T.ok (std_en T) T.K, kp_1 T⟩ (all_cons ⟨106, T.gv 2 (by decide), fn_2 T.ok (std_en T) T.K, kp_2 T⟩ (all_cons ⟨113, T.gv 3 (by decide), fn_3 T.ok (std_en T) T.K, kp_3 T⟩ (all_cons ⟨148, T.gv 4 (by decide), fn_4 T.ok (std_en T) T.K, kp_4 T⟩ (all_cons ⟨155, T.gv 5 (by decide), fn_5 T.ok (std_en T) T.K, kp_5 T⟩ (all_cons ⟨162, T.gv 6 (by decide), fn_6 T.ok (std_en T) T.K, kp_6 T⟩ (all_cons ⟨169, T.gv 7 (by decide), fn_7 T.ok (std_en T) T.K, kp_7 T⟩ (all_cons ⟨174, T.gv 8 (by decide), fn_8 T.ok (std_en T) T.K, kp_8 T⟩ (all_cons ⟨181, T.gv 9 (by decide), fn_9 T.ok (std_en T) T.K, kp_9 T⟩ (all_cons ⟨188, T.gv 10 (by decide), fn_10 T.ok (std_en T) T.K, kp_10 T⟩ (all_cons ⟨195, T.gv 11 (by decide), fn_11 T.ok (std_en T) T.K, kp_11 T⟩ (all_cons ⟨202, T.gv 12 (by decide), fn_12 T.ok (std_en T) T.K, kp_12 T⟩ (all_cons ⟨233, T.gv 13 (by decide), fn_13 T.ok (std_en T) T.K, kp_13 T⟩ (all_cons ⟨276, T.gv 14 (by decide), fn_14 T.ok (std_en T) T.K, kp_14 T⟩ (all_cons ⟨283, T.gv 15 (by decide), fn_15 T.ok (std_en T) T.K, kp_15 T⟩ (all_cons ⟨290, T.gv 16 (by decide), fn_16 T.ok (std_en T) T.K, kp_16 T⟩ (all_cons ⟨297, T.gv 17 (by decide), fn_17 T.ok (std_en T) T.K, kp_17 T⟩ (all_cons ⟨306, T.gv 18 (by decide), fn_18 T.ok (std_en T) T.K, kp_18 T⟩ (all_cons ⟨311, T.gv 19 (by decide), fn_19 T.ok (std_en T) T.K, kp_19 T⟩ (all_cons ⟨318, T.gv 20 (by decide), fn_20 T.ok (std_en T) T.K, kp_20 T⟩ (all_cons ⟨325, T.gv 21 (by decide), fn_21 T.ok (std_en T) T.K, kp_21 T⟩ (all_cons ⟨330, T.gv 22 (by decide), fn_22 T.ok (std_en T) T.K, kp_22 T⟩ (all_cons ⟨337, T.gv 23 (by decide), fn_23 T.ok (std_en T) T.K, kp_23 T⟩ (all_cons ⟨344, T.gv 24 (by decide), fn_24 T.ok (std_en T) T.K, kp_24 T⟩ (all_cons ⟨80, T.gv 40 (by decide), fn_40 T.ok (std_en T) T.K, kp_40 T⟩ (all_cons ⟨127, T.gv 41 (by decide), fn_41 T.ok (std_en T) T.K, kp_41 T⟩ (all_cons ⟨134, T.gv 42 (by decide), fn_42 T.ok (std_en T) T.K, kp_42 T⟩ (all_cons ⟨219, T.gv 43 (by decide), fn_43 T.ok (std_en T) T.K, kp_43 T⟩ (all_cons ⟨248, T.gv 44 (by decide), fn_44 T.ok (std_en T) T.K, kp_44 T⟩ (all_cons ⟨255, T.gv 45 (by decide), fn_45 T.ok (std_en T) T.K, kp_45 T⟩ all_nil))))))))))))))))))))))))))))))) h
noncomputable abbrev InitOk (C : Cfg) (i j : Nat) : Prop := KeepsF C (C.gval i) ∧ ∀ {nd : Nat} {args : List AV} {o o' : Objs}, SCc C nd (C.gval j) (.ref (o.length + 1) :: args) (o ++ [.dict [] [] (some 0), .inst i o.length]) .none o' → SCc C (nd + 1) (C.gval i) args o (.ref (o.length + 1)) o'
theorem init_ok {C : Cfg} (T : Std C) {i j : Nat} (h : initOf i = some j) : KeepsF C (C.gval i) ∧ ∀ {nd : Nat} {args : List AV} {o o' : Objs}, SCc C nd (C.gval j) (.ref (o.length + 1) :: args) (o ++ [.dict [] [] (some 0), .inst i o.length]) .none o' → SCc C (nd + 1) (C.gval i) args o (.ref (o.length + 1)) o' :=
  lkT_ok (P := InitOk C) (l := initL) (all_cons ⟨kp_30 T, fun h => cl_30 T h⟩ (all_cons ⟨kp_31 T, fun h => cl_31 T h⟩ (all_cons ⟨kp_32 T, fun h => cl_32 T h⟩ (all_cons ⟨kp_33 T, fun h => cl_33 T h⟩ all_nil)))) h
theorem callT_ok {C : Cfg} (T : Std C) {nd : Nat} {O : Orc} (OK : OrcOk C nd O) (hg : O.gls = gls0) {i : Nat} {as : List AV} {o o' : Objs} {r : AV} (h : callT O i as o = some (r, o')) : SC C (nd + 2) (C.gval i) as o r o' ∧ KeepsF C (C.gval i) := by
  refine oe h (fun f e h => ?_) fun h => oe h (fun j e h => oa h fun f e2 h => ob h fun r1 o2 e3 h => ot h fun q hz => ?_) fun h => bi_ok T.ok T.bi h
  · obtain ⟨a, h1, h2, h3⟩ := tbl_ok T e
    refine ⟨?_, h3⟩
    rw [h1]
    exact ((run_ok h2 OK hg h).sc).mono (by omega)
  · obtain ⟨h3, h4⟩ := init_ok T e
    obtain ⟨a, h1, h2, _⟩ := tbl_ok T e2
    have : r1 = .none := by cases r1 <;> first | rfl | exact nfB q
    subst this
    cases hz
    refine ⟨SCc.sc (h4 ?_), h3⟩
    rw [h1]
    exact run_ok h2 OK hg e3
theorem orcX_gls (base : Base) (n : Nat) : (orcX base n).gls = gls0 := by cases n <;> rfl
theorem orcX_ok {C : Cfg} (T : Std C) {base : Base} {nd : Nat} (B : BaseOk C nd base) : ∀ n, OrcOk C (nd + 2 * n) (orcX base n)
  | 0 => ⟨fun i as o r o' h => oe h (fun p q h => by cases h; exact B _ _ _ _ _ q) fun h => bi_ok T.ok T.bi h, std_meth T, std_gls T, std_cls T⟩
  | n + 1 => ⟨fun i as o r o' h => oe h (fun p q h => by cases h; exact ⟨(B _ _ _ _ _ q).1.mono (by omega), (B _ _ _ _ _ q).2⟩) fun h => callT_ok T (orcX_ok T B n) (orcX_gls base n) h, std_meth T, std_gls T, std_cls T⟩
noncomputable def CALL (base : Base) (n i : Nat) (as : List AV) (o : Objs) : Option (AV × Objs) := (orcX base n).call i as o
theorem call_ok {C : Cfg} (T : Std C) {base : Base} {nd n i : Nat} (B : BaseOk C nd base) {as : List AV} {o o' : Objs} {r : AV} (h : CALL base n i as o = some (r, o')) : SC C (nd + 2 * n) (C.gval i) as o r o' ∧ KeepsF C (C.gval i) := (orcX_ok T B n).call _ _ _ _ _ h
end
section
theorem callR_ok {C : Cfg} (T : Std C) {base : Base} {nd n i : Nat} (B : BaseOk C nd base) {as : List AV} {o o' : Objs} {r : AV} (h : CALL base n i as o = some (r, o')) : SC C (nd + 2 * n) (C.gval i) as o r o' ∧ KeepsF C (C.gval i) := call_ok T B h
noncomputable abbrev CALLR := CALL
end
section
mutual
noncomputable def cvA (gb : Nat) (tok : Nat → AV) : AV → AV
  | .none => .none
  | .bool b => .bool b
  | .int i => .int i
  | .str l => .str l
  | .tup xs => .tup (cvs gb tok xs)
  | .ref i => tok i
  | .g i => match Nat.blt i gb with
    | true => .g i
    | false => .top
  | .fdict ks xs => .fdict ks (cvs gb tok xs)
  | .finst c ks xs => .finst c ks (cvs gb tok xs)
  | .fsub ks xs => .fsub ks (cvs gb tok xs)
  | .top => .top
noncomputable def cvs (gb : Nat) (tok : Nat → AV) : List AV → List AV
  | [] => []
  | x :: xs => cvA gb tok x :: cvs gb tok xs
end
section
variable {C C' : Cfg} {X X' γ γ' : List Addr} {led led' : Led} {gb : Nat} {tok : Nat → AV}
mutual
theorem VR.cv (hw : C'.w = C.w) (hc : C'.cls = C.cls) (hg : ∀ i, i < gb → C'.gval i = C.gval i) (hs : ∀ a o, Stb C X γ led a o → Stb C' X' γ' led' a o) (hr : ∀ (i : Nat) (a : Addr), γ[i]? = some a → VR C' X' γ' led' (tok i) (.ref a)) :
    ∀ (x : AV) (v : Value), VR C X γ led x v → VR C' X' γ' led' (cvA gb tok x) v
  | .none, v, h => h
  | .bool b, v, h => h
  | .int i, v, h => h
  | .str l, v, h => h
  | .tup xs, v, h => by
    simp only [VR, cvA] at h ⊢
    obtain ⟨a, vs, n, h1, h2, h3⟩ := h
    exact ⟨a, vs, n, h1, hs _ _ h2, VRs.cv hw hc hg hs hr xs vs h3⟩
  | .ref i, v, h => by
    simp only [VR] at h
    obtain ⟨a, h1, rfl⟩ := h
    simp only [cvA]
    exact hr i a h1
  | .g i, v, h => by
    simp only [VR] at h
    simp only [cvA]
    cases q : Nat.blt i gb with
    | true =>
      simp only [VR]
      rw [hg i (Nat.blt_eq.mp q)]
      exact h
    | false => simp only [VR]
  | .fdict ks xs, v, h => by
    simp only [VR, cvA] at h ⊢
    obtain ⟨a, es, n, vs, h1, h2, h3, h4, h5⟩ := h
    exact ⟨a, es, n, vs, h1, hs _ _ h2, by rw [hw]; exact h3, h4, VRs.cv hw hc hg hs hr xs vs h5⟩
  | .finst c ks xs, v, h => by
    simp only [VR, cvA] at h ⊢
    obtain ⟨a, d, es, n, vs, h1, h2, h2', h3, h4, h5⟩ := h
    exact ⟨a, d, es, n, vs, h1, by rw [hc]; exact hs _ _ h2, hs _ _ h2', by rw [hw]; exact h3, h4, VRs.cv hw hc hg hs hr xs vs h5⟩
  | .fsub ks xs, v, h => by
    simp only [VR, cvA] at h ⊢
    obtain ⟨a, es, n, ks', vs', us, h1, h2, h3, h4, h5, h6⟩ := h
    exact ⟨a, es, n, ks', vs', us, h1, hs _ _ h2, by rw [hw]; exact h3, h4, h5, VRs.cv hw hc hg hs hr xs us h6⟩
  | .top, v, h => by simp only [cvA, VR]
theorem VRs.cv (hw : C'.w = C.w) (hc : C'.cls = C.cls) (hg : ∀ i, i < gb → C'.gval i = C.gval i) (hs : ∀ a o, Stb C X γ led a o → Stb C' X' γ' led' a o) (hr : ∀ (i : Nat) (a : Addr), γ[i]? = some a → VR C' X' γ' led' (tok i) (.ref a)) :
    ∀ (xs : List AV) (vs : List Value), VRs C X γ led xs vs → VRs C' X' γ' led' (cvs gb tok xs) vs
  | [], vs, h => h
  | x :: xs, vs, h => by
    simp only [VRs, cvs] at h ⊢
    obtain ⟨v, vs', h1, h2, h3⟩ := h
    exact ⟨v, vs', h1, VR.cv hw hc hg hs hr x v h2, VRs.cv hw hc hg hs hr xs vs' h3⟩
end
mutual
noncomputable def plA : AV → Bool
  | .none => true
  | .bool _ => true
  | .int _ => true
  | .str _ => true
  | .tup xs => plAs xs
  | .g _ => true
  | .top => true
  | _ => false
noncomputable def plAs : List AV → Bool
  | [] => true
  | x :: xs => (plA x).and (plAs xs)
end
mutual
theorem VR.pl (hs : ∀ a vs n, Stb C X γ led a (tupO vs n) → Stb C X' γ' led' a (tupO vs n)) : ∀ (x : AV) (v : Value), plA x = true → VR C X γ led x v → VR C X' γ' led' x v
  | .none, v, _, h => h
  | .bool b, v, _, h => h
  | .int i, v, _, h => h
  | .str l, v, _, h => h
  | .tup xs, v, p, h => by
    simp only [plA] at p
    simp only [VR] at h ⊢
    obtain ⟨a, vs, n, h1, h2, h3⟩ := h
    exact ⟨a, vs, n, h1, hs _ _ _ h2, VRs.pl hs xs vs p h3⟩
  | .ref i, v, p, h => by simp only [plA] at p; cases p
  | .g i, v, _, h => h
  | .fdict ks xs, v, p, h => by simp only [plA] at p; cases p
  | .finst c ks xs, v, p, h => by simp only [plA] at p; cases p
  | .fsub ks xs, v, p, h => by simp only [plA] at p; cases p
  | .top, v, _, h => by simp only [VR]
theorem VRs.pl (hs : ∀ a vs n, Stb C X γ led a (tupO vs n) → Stb C X' γ' led' a (tupO vs n)) : ∀ (xs : List AV) (vs : List Value), plAs xs = true → VRs C X γ led xs vs → VRs C X' γ' led' xs vs
  | [], vs, _, h => h
  | x :: xs, vs, p, h => by
    simp only [plAs, Bool.and_eq_true] at p
    simp only [VRs] at h ⊢
    obtain ⟨v, vs', h1, h2, h3⟩ := h
    exact ⟨v, vs', h1, VR.pl hs x v p.1 h2, VRs.pl hs xs vs' p.2 h3⟩
end
theorem Rel.none (R : Rel C X γ led o) : Rel C X [] led [] := ⟨rfl, List.nodup_nil, by simp, R.inled, fun i o a h => by simp at h⟩
theorem Rel.tupless (R : Rel C X γ led o) (H : Hold C h led) {a : Addr} (ha : a ∈ γ) {vs : List Value} {n : Nat} : (a, tupO vs n) ∉ led := by
  intro hm
  obtain ⟨i, hi, rfl⟩ := List.getElem_of_mem ha
  obtain ⟨ob, hob⟩ : ∃ ob, o[i]? = some ob := ⟨o[i]'(by rw [← R.len]; exact hi), List.getElem?_eq_getElem _⟩
  have k := R.has i ob γ[i] hob (List.getElem?_eq_getElem hi)
  cases ob with
  | list xs =>
    obtain ⟨us, ob, h1, ⟨⟨m, rfl⟩, _⟩, _⟩ := k
    have := congrArg Obj.cls (H.uniq h1 hm)
    simp at this
  | dict ks xs ep =>
    obtain ⟨es, m, us, h1, _⟩ := k
    have := congrArg Obj.cls (H.uniq h1 hm)
    simp at this
  | inst c d =>
    obtain ⟨dx, _, h1⟩ := k
    have := congrArg Obj.cls (H.uniq h1 hm)
    simp [instObj] at this
  | src c =>
    obtain ⟨i, j, t, u, m, h1, _⟩ := k
    have := congrArg Obj.cls (H.uniq h1 hm)
    simp at this
  | fix xs =>
    obtain ⟨us, ob, h1, ⟨⟨hc, _⟩, _⟩, _⟩ := k
    have := congrArg Obj.cls (H.uniq h1 hm)
    rw [hc] at this
    simp at this
end
end
section
theorem SC.weaken {C : Cfg} {nd : Nat} {f : Value} {args : List AV} {o o' : Objs} {r : AV} {args2 : List AV} (h : SC C nd f args2 o r o') (hw : ∀ X γ led vs, VRs C X γ led args vs → VRs C X γ led args2 vs) : SC C nd f args o r o' :=
  fun A s X γ led vs Q E R ne H Rl hv hQ => h A s X γ led vs Q E R ne H Rl (hw _ _ _ _ hv) hQ
noncomputable def tokT : Nat → AV := fun _ => .top
section
variable {C : Cfg} {nd : Nat} {f : Value} {args : List AV} {o o' : Objs} {r : AV}
theorem args_none {X γ : List Addr} {led : Led} {vs : List Value} (hv : VRs C X γ led args vs) : VRs C X [] led (cvs 1000 tokT args) vs :=
  VRs.cv rfl rfl (fun _ _ => rfl) (fun a o h => h.elim .inl fun q => .inr ⟨q.1, by simp, q.2.2⟩) (fun i a _ => by show VR C X [] led .top _; simp only [VR]) _ _ hv
theorem stb_back {X γ γ1 : List Addr} {led led1 : Led} {h1 : Heap} (R : Rel C X γ led o) (H1 : Hold C h1 led1) (e : Ext [] [] led γ1 led1) (H : Hold C h led) (a : Addr) (vs : List Value) (n : Nat) (q : Stb C X γ1 led1 a (tupO vs n)) : Stb C X γ led1 a (tupO vs n) := by
  rcases q with q | ⟨q1, q2, q3⟩
  · exact .inl q
  · refine .inr ⟨q1, fun ha => ?_, q3⟩
    obtain ⟨p, hp, rfl⟩ := List.mem_map.mp (R.gmem ha)
    have := e.stay p hp (by simp) (by simp)
    have e2 := H1.uniq this q1
    exact R.tupless H ha (vs := vs) (n := n) (by have : p = (p.1, p.2) := rfl; rw [this, e2] at hp; exact hp)
theorem lift_pl (h : SC C nd f (cvs 1000 tokT args) [] r o') (hp : plA r = true) : SC C nd f args o r o := by
  intro A s X γ led vs Q E R ne H Rl hv hQ
  refine h A s X [] led vs Q E R ne H Rl.none (args_none hv) fun v h1 tk γ1 led1 H1 R1 e1 hv1 => ?_
  have e : Ext [] γ led γ led1 := ⟨⟨[], by simp, by simp⟩, fun p hp hg ho => e1.stay p hp (by simp) ho, e1.keys⟩
  exact hQ v h1 tk γ led1 H1 (Rl.ext (own := []) (by simp) (fun p hp _ => e1.stay p hp (by simp) (by simp)) e1.keys) e (VR.pl (stb_back Rl H1 e1 H) _ _ hp hv1)
noncomputable def plO : AObj → Bool
  | .list xs => plAs xs
  | .dict _ xs _ => plAs xs
  | _ => false
theorem lift_ob {k : Nat} {ob : AObj} (h : SC C nd f (cvs 1000 tokT args) [] (.ref k) o') (hk : o'[k]? = some ob) (hp : plO ob = true) : SC C nd f args o (.ref o.length) (o ++ [ob]) := by
  intro A s X γ led vs Q E R ne H Rl hv hQ
  refine h A s X [] led vs Q E R ne H Rl.none (args_none hv) fun v h1 tk γ1 led1 H1 R1 e1 hv1 => ?_
  simp only [VR] at hv1
  obtain ⟨a, ha, rfl⟩ := hv1
  obtain ⟨nw, hnw, hn⟩ := e1.pre
  rw [List.nil_append] at hnw
  subst hnw
  have na : a ∉ keys led := hn a (List.mem_of_getElem? ha)
  have e : Ext [] γ led (γ ++ [a]) led1 := ⟨⟨[a], rfl, by simpa using na⟩, fun p hp hg ho => e1.stay p hp (by simp) ho, e1.keys⟩
  have R2 := Rl.ext (own := []) (by simp) (fun p hp _ => e1.stay p hp (by simp) (by simp)) e1.keys
  have aγ : a ∉ γ := fun q => na (Rl.gmem q)
  have aX : a ∉ X := fun q => na (Rl.inled _ q)
  have e2 : Ext [] γ led1 (γ ++ [a]) led1 → True := fun _ => trivial
  have hl : (γ ++ [a])[o.length]? = some a := by rw [← Rl.len]; simp
  have nt : ∀ (vs : List Value) (n : Nat), (a, tupO vs n) ∉ led1 := fun vs n q => R1.tupless H1 (List.mem_of_getElem? ha) q
  have hst : ∀ b vs n, Stb C X γ1 led1 b (tupO vs n) → Stb C X (γ ++ [a]) led1 b (tupO vs n) := fun b us n q => by
    rcases stb_back Rl H1 (γ1 := γ1) e1 H b us n q with q | ⟨q1, q2, q3⟩
    · exact .inl q
    · refine .inr ⟨q1, fun z => ?_, q3⟩
      rcases List.mem_append.mp z with z | z
      · exact q2 z
      · rw [List.mem_singleton.mp z] at q1; exact nt _ _ q1
  have R3 : Rel C X (γ ++ [a]) led1 (o ++ [ob]) := by
    refine ⟨by simp [Rl.len], ?_, fun x hx => ?_, R2.inled, fun i oi b h1 h2 => ?_⟩
    · refine List.nodup_append.mpr ⟨Rl.nodup, by simp, fun x hx y hy => ?_⟩
      rw [List.mem_singleton.mp hy]
      exact fun q => aγ (q ▸ hx)
    · rcases List.mem_append.mp hx with hx | hx
      · exact Rl.apart x hx
      · rw [List.mem_singleton.mp hx]; exact aX
    · by_cases hi : i < o.length
      · rw [List.getElem?_append_left hi] at h1
        rw [List.getElem?_append_left (by rw [Rl.len]; exact hi)] at h2
        have q := Rl.has i oi b h1 h2
        refine q.ext (own := []) e (by simp) fun ob'' hm => e1.stay _ hm (by simp) (by simp)
      · have hl1 := (List.getElem?_eq_some_iff.mp h1).1
        simp at hl1
        have : i = o.length := by omega
        subst this
        rw [hl] at h2
        cases h2
        simp at h1
        subst h1
        have q := R1.has k _ a hk ha
        cases ob with
        | list xs =>
          obtain ⟨us, ob, q1, q2, q3⟩ := q
          exact ⟨us, ob, q1, q2, VRs.pl hst _ _ hp q3⟩
        | dict ks xs ep =>
          obtain ⟨es, n, us, q1, q2, q3, q4, q5⟩ := q
          exact ⟨es, n, us, q1, q2, q3, q4, VRs.pl hst _ _ hp q5⟩
        | inst c d => cases hp
        | src c => cases hp
        | fix c => cases hp
  exact hQ _ h1 tk (γ ++ [a]) led1 H1 R3 e (by simp only [VR]; exact ⟨a, hl, rfl⟩)
noncomputable def snapC (C : Cfg) (h : Heap) (led : Led) (g1 g2 g3 : Value) : Cfg := { C with H := h, S := C.S ++ led, gval := fun i => bif Nat.beq i 61 then g1 else bif Nat.beq i 62 then g2 else bif Nat.beq i 63 then g3 else C.gval i }
theorem snap_gv (h : Heap) (led : Led) (g1 g2 g3 : Value) (i : Nat) (hi : i < 61) : (snapC C h led g1 g2 g3).gval i = C.gval i := by
  show (bif Nat.beq i 61 then g1 else bif Nat.beq i 62 then g2 else bif Nat.beq i 63 then g3 else C.gval i) = C.gval i
  have q : ∀ k, 61 ≤ k → Nat.beq i k = false := fun k hk => by
    cases z : Nat.beq i k with
    | false => rfl
    | true => have := Nat.eq_of_beq_eq_true z; omega
  rw [q 61 (by omega), q 62 (by omega), q 63 (by omega)]
  rfl
theorem look_app {S : Frag} {led : Led} {a : Addr} : (S ++ led).lookup a = (S.lookup a).or (led.lookup a) := List.lookup_append
theorem look_mem {led : Led} (hn : (keys led).Nodup) {a : Addr} {o : Obj} (h : (a, o) ∈ led) : led.lookup a = some o := by
  induction led with
  | nil => cases h
  | cons p r ih =>
    have hn' : p.1 ∉ keys r ∧ (keys r).Nodup := List.nodup_cons.mp hn
    rcases List.mem_cons.mp h with e | hm
    · subst e; simp [List.lookup]
    · have : a ≠ p.1 := fun e => hn'.1 (e ▸ mem_keys hm)
      have hb : (a == p.1) = false := by simpa using this
      obtain ⟨p1, p2⟩ := p
      simp only [List.lookup, hb]
      exact ih hn'.2 hm
theorem look_of {led : Led} {a : Addr} {o : Obj} (h : led.lookup a = some o) : (a, o) ∈ led := by
  induction led with
  | nil => cases h
  | cons p r ih =>
    obtain ⟨p1, p2⟩ := p
    simp only [List.lookup] at h
    split at h
    · rename_i q
      cases h
      rw [beq_iff_eq.mp q]
      exact .head _
    · exact .tail _ (ih h)
theorem snap_S (K : C.Ok) {h : Heap} {led : Led} (H : Hold C h led) {a : Addr} {o : Obj} (hm : C.S.lookup a = some o ∨ (a, o) ∈ led) : (C.S ++ led).lookup a = some o := by
  rw [look_app]
  rcases hm with e | e
  · rw [e]; rfl
  · have : C.S.lookup a = none := by
      cases q : C.S.lookup a with
      | none => rfl
      | some o2 =>
        have h1 := K.s _ _ q
        rw [H.off (mem_keys e)] at h1
        cases h1
    rw [this, look_mem H.nodup e]
    rfl
theorem snap_std (T : Std C) {h : Heap} {led : Led} (H : Hold C h led) (hz : C.H.objs.size ≤ h.objs.size) (g1 g2 g3 : Value) : Std (snapC C h led g1 g2 g3) where
  ok := {
    k := T.ok.k.keeps H.keep
    s := fun a o e => by
      have e : (C.S ++ led).lookup a = some o := e
      rw [look_app] at e
      cases q : C.S.lookup a with
      | none => rw [q] at e; exact H.at_ _ (look_of e)
      | some o2 => rw [q] at e; cases e; exact H.keep _ _ (T.ok.s _ _ q)
    g := T.ok.g.keeps H.keep
    b := T.ok.b.keeps H.keep
    nolimit := T.ok.nolimit.keeps H.keep
    big := Nat.lt_of_lt_of_le T.ok.big hz
    sys := fun o e => by
      have e : (C.S ++ led).lookup sysModules = some o := e
      rw [look_app] at e
      cases q : C.S.lookup sysModules with
      | some o2 => rw [q] at e; cases e; exact T.ok.sys _ q
      | none =>
        rw [q] at e
        have e : led.lookup sysModules = some o := e
        rcases H.above _ (look_of e) with h2 | h2
        · have h3 := T.ok.big
          have h4 : (1 : Nat) < C.H.objs.size := Nat.lt_of_succ_lt h3
          exact absurd (Nat.lt_of_lt_of_le h4 h2) (Nat.lt_irrefl _)
        · exact h2.2.1 }
  K := T.K
  S := fun a o e => snap_S T.ok H (.inl (T.S a o e))
  mb := T.mb
  gv := fun i hi => by rw [snap_gv _ _ _ _ _ i (by omega)]; exact T.gv i hi
  cl := T.cl
theorem snap_call (T : Std C) {b : Bool} {args' : Heap → Led → List AV}
    (h : ∀ X γ led h vs, Hold C h led → C.H.objs.size ≤ h.objs.size → Rel C X γ led o → VRs C X γ led args vs → ∃ g1 g2 g3 args' o', VRs (snapC C h led g1 g2 g3) [] [] [] args' vs ∧ SCc (snapC C h led g1 g2 g3) nd f args' [] (.bool b) o') : SC C nd f args o (.bool b) o := by
  intro A s X γ led vs Q E R ne H Rl hv hQ
  obtain ⟨g1, g2, g3, args', o', ha, hc⟩ := h X γ led s.heap vs H (hold_ge H ne) Rl hv
  refine wpAny_call ?_
  refine hc A s [] [] [] vs _ R (Nat.le_refl _) ⟨by simp, List.nodup_nil, by simp, fun b o e => e⟩ ⟨rfl, List.nodup_nil, by simp, by simp, fun i o a h => by simp at h⟩ ha fun v h1 tk γ1 led1 H1 R1 e1 hv1 => ?_
  simp only [VR] at hv1
  subst hv1
  exact hQ _ h1 tk γ led (H.grow H1.keep) Rl Ext.refl (by simp only [VR])
end
end
section
noncomputable def fnd (i : Nat) : List Nat → Nat → Option Nat
  | [], _ => none
  | j :: r, n => bif Nat.beq i j then some n else fnd i r (n + 1)
theorem fnd_some {i j : Nat} : ∀ {kp : List Nat} {n : Nat}, fnd i kp n = some j → ∃ m, j = n + m ∧ kp[m]? = some i
  | [], _, h => by cases h
  | x :: r, n, h => by
    unfold fnd at h
    cases q : Nat.beq i x with
    | true =>
      rw [q] at h
      cases h
      exact ⟨0, rfl, by rw [Nat.eq_of_beq_eq_true q]; rfl⟩
    | false =>
      rw [q] at h
      obtain ⟨m, rfl, hm⟩ := fnd_some (kp := r) h
      exact ⟨m + 1, by omega, by simpa using hm⟩
theorem fnd_none {i : Nat} : ∀ {kp : List Nat} {n : Nat}, fnd i kp n = none → i ∉ kp
  | [], _, _ => by simp
  | x :: r, n, h => by
    unfold fnd at h
    cases q : Nat.beq i x with
    | true => rw [q] at h; cases h
    | false =>
      rw [q] at h
      have := fnd_none (kp := r) h
      intro hm
      rcases List.mem_cons.mp hm with rfl | hm
      · rw [Nat.beq_refl] at q; cases q
      · exact this hm
noncomputable def optA {α : Type} (x : Option α) (k : α → AV) (y : AV) : AV := Option.rec (motive := fun _ => AV) y k x
theorem optA_el {α : Type} {P : AV → Prop} {x : Option α} {k : α → AV} {y : AV} (h1 : ∀ a, x = some a → P (k a)) (h2 : x = none → P y) : P (optA x k y) := by
  cases x with
  | none => exact h2 rfl
  | some a => exact h1 a rfl
noncomputable def frzO (o : Objs) (kp : List Nat) (tok : Nat → AV) (ob : AObj) : AV := match ob with
  | .dict ks xs _ => .fdict ks (cvs 1000 tok xs)
  | .inst c d => optA (fnd d kp 0) (fun _ => .top) (optA o[d]? (fun ob => optA (jDct ob) (fun q => .finst c q.1 (cvs 1000 tok q.2.1)) .top) .top)
  | _ => .top
noncomputable def frz (o : Objs) (kp : List Nat) : Nat → Nat → AV
  | 0, i => optA (fnd i kp 0) .ref .top
  | k + 1, i => optA (fnd i kp 0) .ref (optA o[i]? (frzO o kp (frz o kp k)) .top)
noncomputable def cvO (tok : Nat → AV) (kp : List Nat) : AObj → Option AObj
  | .list xs => some (.list (cvs 1000 tok xs))
  | .dict ks xs ep => some (.dict ks (cvs 1000 tok xs) ep)
  | .inst c d => oaM (fnd d kp 0) fun j => some (.inst c j)
  | .src c => some (.src c)
  | .fix xs => some (.fix (cvs 1000 tok xs))
noncomputable def cmpO (o : Objs) (tok : Nat → AV) (kp : List Nat) : List Nat → Option Objs
  | [] => some []
  | i :: r => oaM o[i]? fun ob => oaM (cvO tok kp ob) fun ob2 => oaM (cmpO o tok kp r) fun o2 => some (ob2 :: o2)
noncomputable def pick (γ : List Addr) (kp : List Nat) : List Addr := kp.map fun i => γ.getD i 0
theorem cmpO_get {o : Objs} {tok : Nat → AV} {kp : List Nat} : ∀ {l : List Nat} {o2 : Objs}, cmpO o tok kp l = some o2 → o2.length = l.length ∧ ∀ (j i : Nat), l[j]? = some i → ∃ ob ob2, o[i]? = some ob ∧ cvO tok kp ob = some ob2 ∧ o2[j]? = some ob2
  | [], o2, h => by cases h; exact ⟨rfl, fun j i h => by simp at h⟩
  | x :: r, o2, h => by
    refine oa h fun ob h1 h => oa h fun ob2 h2 h => oa h fun o3 h3 h => ?_
    cases h
    obtain ⟨l1, l2⟩ := cmpO_get h3
    refine ⟨congrArg Nat.succ l1, fun j i hj => ?_⟩
    cases j with
    | zero => cases hj; exact ⟨ob, ob2, h1, h2, rfl⟩
    | succ j => exact l2 j i hj
section
variable {C : Cfg} {X γ : List Addr} {led : Led} {o o2 : Objs} {kp : List Nat} {h : Heap}
theorem getD_of {i : Nat} {a : Addr} (e : γ[i]? = some a) : γ.getD i 0 = a := by
  rw [List.getD_eq_getElem?_getD, e]; rfl
theorem pick_get {i j : Nat} {a : Addr} (e : γ[i]? = some a) (hf : kp[j]? = some i) : (pick γ kp)[j]? = some a := by
  unfold pick
  rw [List.getElem?_map, hf]
  show some (γ.getD i 0) = some a
  rw [getD_of e]
structure Keep (γ : List Addr) (o : Objs) (kp : List Nat) : Prop where
  len : γ.length = o.length
  nd : γ.Nodup
  kn : kp.Nodup
  lt : ∀ i ∈ kp, i < o.length
theorem Keep.mem (K : Keep γ o kp) {a : Addr} (h : a ∈ pick γ kp) : ∃ i ∈ kp, γ[i]? = some a := by
  obtain ⟨i, hi, rfl⟩ := List.mem_map.mp h
  have := K.lt i hi
  rw [← K.len] at this
  exact ⟨i, hi, by rw [List.getD_eq_getElem?_getD, List.getElem?_eq_getElem this]; rfl⟩
theorem Keep.sub (K : Keep γ o kp) {a : Addr} (h : a ∈ pick γ kp) : a ∈ γ := by
  obtain ⟨i, _, e⟩ := K.mem h
  exact List.mem_of_getElem? e
theorem Keep.inj (K : Keep γ o kp) {i j : Nat} {a : Addr} (h1 : γ[i]? = some a) (h2 : γ[j]? = some a) : i = j := by
  have l1 := (List.getElem?_eq_some_iff.mp h1).1
  exact (List.getElem?_inj l1 K.nd).mp (h1.trans h2.symm)
theorem Keep.out (K : Keep γ o kp) {i : Nat} {a : Addr} (e : γ[i]? = some a) (hi : i ∉ kp) : a ∉ pick γ kp := fun q => by
  obtain ⟨j, hj, e2⟩ := K.mem q
  exact hi (K.inj e e2 ▸ hj)
theorem Keep.stb (K : Keep γ o kp) {a : Addr} {ob : Obj} (h : Stb C X γ led a ob) : Stb C X (pick γ kp) led a ob :=
  h.elim .inl fun q => .inr ⟨q.1, fun z => q.2.1 (K.sub z), q.2.2⟩
theorem frz_ok (R : Rel C X γ led o) (K : Keep γ o kp) : ∀ (k i : Nat) (a : Addr), γ[i]? = some a → VR C X (pick γ kp) led (frz o kp k i) (.ref a) := by
  have kept : ∀ {i j : Nat} {a : Addr}, γ[i]? = some a → fnd i kp 0 = some j → VR C X (pick γ kp) led (.ref j) (.ref a) := fun {i j a} e hf => by
    obtain ⟨m, rfl, hm⟩ := fnd_some hf
    refine ⟨a, ?_, rfl⟩
    rw [Nat.zero_add]
    exact pick_get e hm
  intro k
  induction k with
  | zero => exact fun i a e => optA_el (P := fun w => VR C X (pick γ kp) led w (.ref a)) (fun j hj => kept e hj) fun _ => trivial
  | succ k ih =>
    refine fun i a e => optA_el (P := fun w => VR C X (pick γ kp) led w (.ref a)) (fun j hj => kept e hj) fun hf => optA_el (P := fun w => VR C X (pick γ kp) led w (.ref a)) (fun ob ho => ?_) fun _ => trivial
    have na := K.out e (fnd_none hf)
    have aX : a ∉ X := R.apart a (List.mem_of_getElem? e)
    have q := R.has _ _ _ ho e
    cases ob with
    | dict ks xs ep =>
      obtain ⟨es, n, vs, h1, _, h2, h3, h4⟩ := q
      exact ⟨a, es, n, vs, rfl, .inr ⟨h1, na, aX⟩, h2, h3, VRs.cv rfl rfl (fun _ _ => rfl) (fun _ _ => K.stb) ih _ _ h4⟩
    | inst c d =>
      obtain ⟨dx, hd, h1⟩ := q
      refine optA_el (P := fun w => VR C X (pick γ kp) led w (.ref a)) (fun _ _ => trivial) fun hfd => optA_el (P := fun w => VR C X (pick γ kp) led w (.ref a)) (fun od hod => optA_el (P := fun w => VR C X (pick γ kp) led w (.ref a)) (fun p hp => ?_) fun _ => trivial) fun _ => trivial
      cases jDct_ok (xs := p.2.1) (ep := p.2.2) hp
      have nd := K.out hd (fnd_none hfd)
      have dX : dx ∉ X := R.apart dx (List.mem_of_getElem? hd)
      obtain ⟨es, n, vs, g1, _, g2, g3, g4⟩ := R.has _ _ _ hod hd
      exact ⟨a, dx, es, n, vs, rfl, .inr ⟨h1, na, aX⟩, .inr ⟨g1, nd, dX⟩, g2, g3, VRs.cv rfl rfl (fun _ _ => rfl) (fun _ _ => K.stb) ih _ _ g4⟩
    | _ => trivial
theorem cmpk_ok {k : Nat} (R : Rel C X γ led o) (hk : kp.Nodup) (hc : cmpO o (frz o kp k) kp kp = some o2) : Rel C X (pick γ kp) led o2 ∧ ∀ x v, VR C X γ led x v → VR C X (pick γ kp) led (cvA 1000 (frz o kp k) x) v := by
  obtain ⟨l1, l2⟩ := cmpO_get hc
  have K : Keep γ o kp := ⟨R.len, R.nodup, hk, fun i hi => by
    obtain ⟨j, hj, rfl⟩ := List.getElem_of_mem hi
    obtain ⟨ob, _, h1, _⟩ := l2 j _ (List.getElem?_eq_getElem hj)
    exact (List.getElem?_eq_some_iff.mp h1).1⟩
  have F := frz_ok R K k
  have cv : ∀ x v, VR C X γ led x v → VR C X (pick γ kp) led (cvA 1000 (frz o kp k) x) v := VR.cv rfl rfl (fun _ _ => rfl) (fun _ _ => K.stb) F
  have cvS : ∀ xs vs, VRs C X γ led xs vs → VRs C X (pick γ kp) led (cvs 1000 (frz o kp k) xs) vs := VRs.cv rfl rfl (fun _ _ => rfl) (fun _ _ => K.stb) F
  refine ⟨⟨by simp [pick, l1], ?_, fun a ha => R.apart a (K.sub ha), R.inled, fun j ob2 a h1 h2 => ?_⟩, cv⟩
  · unfold pick
    refine List.pairwise_map.mpr (List.Pairwise.imp_of_mem (fun {i j} hi hj hne e => ?_) hk)
    have a1 := K.lt i hi
    have a2 := K.lt j hj
    rw [← R.len] at a1 a2
    rw [List.getD_eq_getElem?_getD, List.getD_eq_getElem?_getD, List.getElem?_eq_getElem a1, List.getElem?_eq_getElem a2] at e
    exact hne (K.inj (a := γ[i]) (List.getElem?_eq_getElem a1) (by rw [List.getElem?_eq_getElem a2]; exact congrArg some e.symm))
  · have hj : j < kp.length := by have := (List.getElem?_eq_some_iff.mp h1).1; rw [l1] at this; exact this
    obtain ⟨ob, ob3, g1, g2, g3⟩ := l2 j _ (List.getElem?_eq_getElem hj)
    rw [h1] at g3
    cases g3
    have hi : kp[j] < γ.length := by rw [R.len]; exact (List.getElem?_eq_some_iff.mp g1).1
    have e1 : γ[kp[j]]? = some γ[kp[j]] := List.getElem?_eq_getElem hi
    have e2 := pick_get e1 (List.getElem?_eq_getElem hj)
    rw [h2] at e2
    cases e2
    have q := R.has _ _ _ g1 e1
    cases ob with
    | list xs =>
      cases g2
      obtain ⟨vs, ob, q1, q2, q3⟩ := q
      exact ⟨vs, ob, q1, q2, cvS _ _ q3⟩
    | dict ks xs ep =>
      cases g2
      obtain ⟨es, n, vs, q1, q2, q3, q4, q5⟩ := q
      exact ⟨es, n, vs, q1, q2, q3, q4, cvS _ _ q5⟩
    | inst c d =>
      refine oa g2 fun m hm g2 => ?_
      cases g2
      obtain ⟨dx, q1, q2⟩ := q
      obtain ⟨m', rfl, hm'⟩ := fnd_some hm
      exact ⟨dx, by rw [Nat.zero_add]; exact pick_get q1 hm', q2⟩
    | src c =>
      cases g2
      exact q
    | fix xs =>
      cases g2
      obtain ⟨vs, ob, q1, q2, q3⟩ := q
      exact ⟨vs, ob, q1, q2, cvS _ _ q3⟩
theorem pick_pre {n : Nat} {γ0 new : List Addr} {r : List Nat} (hl : γ0.length = n) : ∃ new', pick (γ0 ++ new) (List.range n ++ r) = γ0 ++ new' := by
  unfold pick
  rw [List.map_append]
  refine ⟨_, congrArg (· ++ _) ?_⟩
  refine List.ext_getElem (by simp [hl]) fun i h1 h2 => ?_
  simp only [List.getElem_map, List.getElem_range]
  rw [List.getD_eq_getElem?_getD, List.getElem?_append_left h2, List.getElem?_eq_getElem h2]
  rfl
theorem ext_pick {own γ0 γ1 : List Addr} {led0 : Led} {n k : Nat} {r : List Nat} (e : Ext own γ0 led0 γ1 led) (R : Rel C X γ1 led o) (hl : γ0.length = n) (hk : (List.range n ++ r).Nodup) (hc : cmpO o (frz o (List.range n ++ r) k) (List.range n ++ r) (List.range n ++ r) = some o2) : Ext own γ0 led0 (pick γ1 (List.range n ++ r)) led := by
  obtain ⟨new, rfl, hn⟩ := e.pre
  obtain ⟨R2, _⟩ := cmpk_ok R hk hc
  obtain ⟨new', hp⟩ := pick_pre (n := n) (new := new) (r := r) hl
  have nd := R2.nodup
  have K : Keep (γ0 ++ new) o (List.range n ++ r) := ⟨R.len, R.nodup, hk, fun i hi => by
    obtain ⟨l1, l2⟩ := cmpO_get hc
    obtain ⟨j, hj, rfl⟩ := List.getElem_of_mem hi
    obtain ⟨ob, _, h1, _⟩ := l2 j _ (List.getElem?_eq_getElem hj)
    exact (List.getElem?_eq_some_iff.mp h1).1⟩
  rw [hp] at nd ⊢
  refine ⟨⟨new', rfl, fun a ha => ?_⟩, e.stay, e.keys⟩
  have h1 : a ∈ γ0 ++ new := K.sub (by rw [hp]; exact List.mem_append_right _ ha)
  rcases List.mem_append.mp h1 with h1 | h1
  · exact absurd rfl ((List.nodup_append.mp nd).2.2 a h1 a ha)
  · exact hn a h1
end
theorem sc_cmp {C : Cfg} {nd k n : Nat} {f : Value} {args : List AV} {o o' o2 : Objs} {r : AV} {rest : List Nat} (h : SC C nd f args o r o') (hl : o.length = n) (hk : (List.range n ++ rest).Nodup) (hc : cmpO o' (frz o' (List.range n ++ rest) k) (List.range n ++ rest) (List.range n ++ rest) = some o2) : SC C nd f args o (cvA 1000 (frz o' (List.range n ++ rest) k) r) o2 := by
  intro A s X γ led vs Q E R ne H Rl hv hQ
  refine h A s X γ led vs Q E R ne H Rl hv fun v h1 tk γ1 led1 H1 R1 e1 hv1 => ?_
  obtain ⟨R2, cv⟩ := cmpk_ok R1 hk hc
  exact hQ v h1 tk _ led1 H1 R2 (ext_pick e1 R1 (Rl.len.trans hl) hk hc) (cv _ _ hv1)
end
section
noncomputable def nob : Base := fun _ _ _ => none
theorem nob_ok {C : Cfg} {nd : Nat} : BaseOk C nd nob := fun i as o r o' h => by cases h
noncomputable abbrev Mk := Option (Bool × Bool)
noncomputable def psort (b : Bool) : AV := .tup [.str n_func_, .tup (match b with | false => [] | true => [.tup [.str n_bool_]]), .tup [], .bool false]
noncomputable def keyOf (p x : Nm) : Nm := p ++ [46] ++ x
noncomputable def dmK : List (Nm × Option (Bool × AV)) → List Nm
  | [] => []
  | (_, none) :: r => dmK r
  | (x, some _) :: r => x :: dmK r
noncomputable def dmX (pre : Nm) : List (Nm × Option (Bool × AV)) → List AV
  | [] => []
  | (_, none) :: r => dmX pre r
  | (x, some (b, f)) :: r => .tup [.bool b, f, .str (keyOf pre x)] :: dmX pre r
noncomputable def wkeys : List Nm := fl0 33
noncomputable def rkeys : List Nm := fl0 32
noncomputable def rowA (nm : Nm) (under : AV) (ks : List Nm) (xs : List AV) : AV := .finst 32 rkeys [.str nm, .str n_m_, under, .fdict ks xs]
noncomputable def WF (n : AV) : AV := .finst 33 wkeys [.none, n, .fdict [] [], .fdict [] [], .fdict [] [], .fdict [] [], .fdict [] [], .fdict [] [], .top, .top, .none, .top, .bool true]
noncomputable def numA : AV := .tup [.str n_named_, .str n_m_N_]
noncomputable def holA : AV := .tup [.str n_named_, .str n_m_H_]
noncomputable def ptrA (t : AV) : AV := .tup [.str n_ptr_, t]
inductive Fg where
  | f
  | g
  | h
noncomputable def Fg.n : Fg → Nm
  | .f => n_f_
  | .g => n_g_
  | .h => n_h_
inductive Ov where
  | no
  | fld (x : Fg) (first : Bool)
  | mth (x : Fg) (b : Bool) (s : Bool)
noncomputable abbrev Pm := Option (Bool × AV)
noncomputable def one3 (x : Fg) (b : Bool) (a : AV) : List (Nm × Pm) := match x with
  | .f => [(n_f_, some (b, a))]
  | .g => [(n_g_, some (b, a))]
  | .h => [(n_h_, some (b, a))]
inductive Oa where
  | no
  | fld (x : Fg) (first : Bool)
  | mth (x : Fg) (b : Bool) (a : AV)
noncomputable def fN (led : Bool) : AV := .tup [.str n_N_, (match led with | true => ptrA numA | false => numA), .bool true]
noncomputable def fX (x : Fg) : AV := .tup [.str x.n, .tup [.str n_string_], .bool false]
noncomputable def rowN (mf mg mh : Pm) : AV := rowA n_m_N_ (.tup [.str n_int_, .str n_int_]) (dmK [(n_f_, mf), (n_g_, mg), (n_h_, mh)]) (dmX n_m_N_ [(n_f_, mf), (n_g_, mg), (n_h_, mh)])
noncomputable def rowH (led : Bool) : Oa → AV
  | .no => rowA n_m_H_ (.tup [.str n_struct_, .tup [fN led]]) [] []
  | .fld x true => rowA n_m_H_ (.tup [.str n_struct_, .tup [fX x, fN led]]) [] []
  | .fld x false => rowA n_m_H_ (.tup [.str n_struct_, .tup [fN led, fX x]]) [] []
  | .mth x b a => rowA n_m_H_ (.tup [.str n_struct_, .tup [fN led]]) (dmK (one3 x b a)) (dmX n_m_H_ (one3 x b a))
noncomputable def W0 (mf mg mh : Pm) (led : Bool) (o : Oa) : AV := WF (.fsub [n_m_N_, n_m_H_] [rowN mf mg mh, rowH led o])
noncomputable def res (r : Option (AV × Objs)) : Option AV := match r with
  | some (v, _) => some v
  | none => none
noncomputable def eqF : Fg → Fg → Bool
  | .f, .f => true
  | .g, .g => true
  | .h, .h => true
  | _, _ => false
noncomputable def stepN (o : Oa) (led : Bool) : AV := .tup [.tup [(match o with | .fld _ true => .int 1 | _ => .int 0), .bool led]]
noncomputable def memP (o : Oa) (led : Bool) (x : Fg) : Pm → AV
  | none => .none
  | some (b, a) => .tup [.str n_method_, stepN o led, .str (keyOf n_m_N_ x.n), .bool b, a]
noncomputable def pmOf (mf mg mh : Pm) : Fg → Pm
  | .f => mf
  | .g => mg
  | .h => mh
noncomputable def memH (mf mg mh : Pm) (led : Bool) (o : Oa) (x : Fg) : AV := match o with
  | .no => memP o led x (pmOf mf mg mh x)
  | .fld y t => match eqF x y with
    | true => .tup [.str n_field_, .tup [.tup [(match t with | true => .int 0 | false => .int 1), .bool false]], .tup [.str n_string_]]
    | false => memP o led x (pmOf mf mg mh x)
  | .mth y b a => match eqF x y with
    | true => .tup [.str n_method_, .tup [], .str (keyOf n_m_H_ x.n), .bool b, a]
    | false => memP o led x (pmOf mf mg mh x)
noncomputable def mapX {α β : Type} (f : α → β) : List α → List β
  | [] => []
  | x :: r => f x :: mapX f r
theorem mapX_eq {α β : Type} {f g : α → β} : ∀ {l : List α}, l.map f = mapX g l → ∀ x ∈ l, f x = g x
  | [], _, x, h => nomatch h
  | y :: r, e, x, h => by
    have e : f y :: r.map f = g y :: mapX g r := e
    injection e with e1 e2
    rcases List.mem_cons.mp h with h | h
    · rw [h]; exact e1
    · exact mapX_eq e2 x h
noncomputable def prodL {α β : Type} : List α → List β → List (α × β)
  | [], _ => []
  | x :: r, b => b.map (fun y => (x, y)) ++ prodL r b
theorem prod_mem {α β : Type} : ∀ {a : List α} {b : List β} {x : α} {y : β}, x ∈ a → y ∈ b → (x, y) ∈ prodL a b
  | z :: r, b, x, y, h1, h2 => by
    rcases List.mem_cons.mp h1 with h | h
    · rw [h]; exact List.mem_append_left _ (List.mem_map.mpr ⟨y, h2, rfl⟩)
    · exact List.mem_append_right _ (prod_mem h h2)
noncomputable def boolL : List Bool := [false, true]
theorem bool_mem (b : Bool) : b ∈ boolL := by
  cases b with
  | false => exact .head _
  | true => exact .tail _ (.head _)
noncomputable def fgL : List Fg := [.f, .g, .h]
theorem fg_mem (x : Fg) : x ∈ fgL := by
  cases x with
  | f => exact .head _
  | g => exact .tail _ (.head _)
  | h => exact .tail _ (.tail _ (.head _))
noncomputable def mkL : List Mk := none :: (prodL boolL boolL).map some
theorem mk_mem (m : Mk) : m ∈ mkL := by
  cases m with
  | none => exact .head _
  | some p => exact .tail _ (List.mem_map.mpr ⟨p, prod_mem (bool_mem p.1) (bool_mem p.2), rfl⟩)
noncomputable def ovL : List Ov := .no :: ((prodL fgL boolL).map (fun p => .fld p.1 p.2) ++ (prodL fgL (prodL boolL boolL)).map fun p => .mth p.1 p.2.1 p.2.2)
theorem ov_mem (o : Ov) : o ∈ ovL := by
  cases o with
  | no => exact .head _
  | fld x t => exact .tail _ (List.mem_append_left _ (List.mem_map.mpr ⟨(x, t), prod_mem (fg_mem x) (bool_mem t), rfl⟩))
  | mth x b s => exact .tail _ (List.mem_append_right _ (List.mem_map.mpr ⟨(x, b, s), prod_mem (fg_mem x) (prod_mem (bool_mem b) (bool_mem s)), rfl⟩))
theorem pm_ex (m : Pm) : ∃ b a, m ∈ [none, some (b, a)] := by
  cases m with
  | none => exact ⟨false, .none, .head _⟩
  | some p => exact ⟨p.1, p.2, .tail _ (.head _)⟩
noncomputable def oaL (b : Bool) (a : AV) : List Oa := .no :: ((prodL fgL boolL).map (fun p => .fld p.1 p.2) ++ fgL.map fun x => .mth x b a)
theorem oa_ex (o : Oa) : ∃ b a, o ∈ oaL b a := by
  cases o with
  | no => exact ⟨false, .none, .head _⟩
  | fld x t => exact ⟨false, .none, .tail _ (List.mem_append_left _ (List.mem_map.mpr ⟨(x, t), prod_mem (fg_mem x) (bool_mem t), rfl⟩))⟩
  | mth x b a => exact ⟨b, a, .tail _ (List.mem_append_right _ (List.mem_map.mpr ⟨x, fg_mem x, rfl⟩))⟩
noncomputable def natL : Nat → List Nat
  | 0 => []
  | n + 1 => n :: natL n
theorem nat_mem {i : Nat} : ∀ {n : Nat}, i < n → i ∈ natL n
  | n + 1, h => by
    rcases Nat.lt_succ_iff_lt_or_eq.mp h with h | h
    · exact .tail _ (nat_mem h)
    · rw [h]; exact .head _
end
section
noncomputable def resO (r : Option (AV × Objs)) : Option AObj := match r with
  | some (.ref k, o) => o[k]?
  | _ => none
theorem nsO2 {α : Type} {a : α} {p : Prop} (h : none = some a) : p := nomatch h
mutual
noncomputable def eqV : AV → AV → Bool
  | .none, b => match b with | .none => true | _ => false
  | .bool x, b => match b with | .bool y => (match x with | true => y | false => !y) | _ => false
  | .int x, b => match b with | .int y => decide (x = y) | _ => false
  | .str x, b => match b with | .str y => eqN x y | _ => false
  | .tup x, b => match b with | .tup y => eqVs x y | _ => false
  | .g x, b => match b with | .g y => Nat.beq x y | _ => false
  | _, _ => false
noncomputable def eqVs : List AV → List AV → Bool
  | [], b => match b with | [] => true | _ :: _ => false
  | x :: xs, b => match b with | [] => false | y :: ys => (eqV x y).and (eqVs xs ys)
end
inductive Op where
  | abs
  | fld (st : AV)
  | own (b : Bool) (a : AV) (k : Nm)
  | prom (i : Int) (b : Bool) (a : AV) (k : Nm)
noncomputable def Op.mem (led : Bool) : Op → AV
  | .abs => .none
  | .fld st => .tup [.str n_field_, st, .tup [.str n_string_]]
  | .own b a k => .tup [.str n_method_, .tup [], .str k, .bool b, a]
  | .prom i b a k => .tup [.str n_method_, .tup [.tup [.int i, .bool led]], .str k, .bool b, a]
noncomputable def Op.memq (led : Bool) : Op → Option AV
  | .abs => none
  | o => some (o.mem led)
noncomputable def ansB (o : Objs) : Option AV → Option (AV × Objs)
  | some v => some (v, o)
  | none => none
noncomputable def Op.nm (x : Nm) : Op → List AV
  | .abs => []
  | _ => [.str x]
noncomputable def Op.in (ptr led : Bool) : Op → Option (AV × AV × AV)
  | .abs => none
  | .fld _ => none
  | .own b a k => match b, ptr with
    | true, false => none
    | _, _ => some (.tup [], .str k, a)
  | .prom i b a k => match b, ptr, led with
    | true, false, false => none
    | _, _, _ => some (.tup [.tup [.int i, .bool led]], .str k, a)
noncomputable def msK : List (Nm × Option (AV × AV × AV)) → List Nm
  | [] => []
  | (x, none) :: r => msK r
  | (x, some _) :: r => x :: msK r
noncomputable def msX : List (Nm × Option (AV × AV × AV)) → List AV
  | [] => []
  | (x, none) :: r => msX r
  | (x, some (a, b, c)) :: r => .tup [a, b, c] :: msX r
noncomputable def msD (l : List (Nm × Option (AV × AV × AV))) : AObj := .dict (msK l) (msX l) (some (msK l).length)
mutual
theorem eqV_ok : ∀ {a b : AV}, eqV a b = true → a = b
  | .none, b, h => by cases b <;> first | rfl | exact nfB h
  | .bool x, b, h => by
    cases b with
    | bool y => cases x <;> cases y <;> first | rfl | exact nfB h
    | _ => exact nfB h
  | .int x, b, h => by
    cases b with
    | int y => exact congrArg AV.int (of_decide_eq_true h)
    | _ => exact nfB h
  | .str x, b, h => by
    cases b with
    | str y => exact congrArg AV.str (eqN_iff.mp h)
    | _ => exact nfB h
  | .tup x, b, h => by
    cases b with
    | tup y => exact congrArg AV.tup (eqVs_ok h)
    | _ => exact nfB h
  | .g x, b, h => by
    cases b with
    | g y => exact congrArg AV.g (Nat.eq_of_beq_eq_true h)
    | _ => exact nfB h
  | .ref _, b, h => nfB h
  | .fdict _ _, b, h => nfB h
  | .finst _ _ _, b, h => nfB h
  | .fsub _ _, b, h => nfB h
  | .top, b, h => nfB h
theorem eqVs_ok : ∀ {a b : List AV}, eqVs a b = true → a = b
  | [], [], h => rfl
  | [], _ :: _, h => nfB h
  | x :: xs, [], h => nfB h
  | x :: xs, y :: ys, h => by
    obtain ⟨h1, h2⟩ := and2 h
    rw [eqV_ok h1, eqVs_ok h2]
end
noncomputable abbrev Entry := Nat × List AV × (Objs → Option (AV × Objs))
noncomputable def findB : List Entry → Base
  | [], _, _, _ => none
  | e :: r, i, as, o => bif (Nat.beq i e.1).and (eqVs as e.2.1) then e.2.2 o else findB r i as o
theorem findB_ok {C : Cfg} {nd : Nat} : ∀ {l : List Entry}, (∀ e ∈ l, (∀ o r o', e.2.2 o = some (r, o') → SC C nd (C.gval e.1) e.2.1 o r o') ∧ KeepsF C (C.gval e.1)) → BaseOk C nd (findB l)
  | [], _, i, as, o, r, o', h => nsO2 h
  | e :: l, H, i, as, o, r, o', h => by
    have h : (bif (Nat.beq i e.1).and (eqVs as e.2.1) then e.2.2 o else findB l i as o) = some (r, o') := h
    cases q : (Nat.beq i e.1).and (eqVs as e.2.1) with
    | true =>
      rw [q] at h
      obtain ⟨q1, q2⟩ := and2 q
      have e1 := Nat.eq_of_beq_eq_true q1
      have e2 := eqVs_ok q2
      have := H e (.head _)
      rw [e1, e2]
      exact ⟨this.1 o r o' h, this.2⟩
    | false =>
      rw [q] at h
      exact findB_ok (fun e he => H e (.tail _ he)) _ _ _ _ _ h
noncomputable def msB (T start : AV) (led : Bool) (a b c : Op) : Base := findB [(4, [.g 61, T], fun o => some (.tup [start, .bool false], o)), (6, [.g 61, start], fun o => some (.ref o.length, o ++ [.list (Op.nm n_f_ a ++ Op.nm n_g_ b ++ Op.nm n_h_ c)])), (7, [.g 61, T, .str n_f_], fun o => ansB o (a.memq led)), (7, [.g 61, T, .str n_g_], fun o => ansB o (b.memq led)), (7, [.g 61, T, .str n_h_], fun o => ansB o (c.memq led))]
end
section
noncomputable def Tok (C : Cfg) (i : Nat) (av : AV) : Prop := ∀ X γ led, VR C X γ led av (C.gval i)
theorem Tok.vr {C : Cfg} {i : Nat} {av : AV} (T : Tok C i av) {X γ : List Addr} {led : Led} {v : Value} (h : VR C X γ led (.g i) v) : VR C X γ led av v := by
  simp only [VR] at h
  rw [h]
  exact T X γ led
theorem ansB_some {o o' : Objs} {r : Option AV} {v : AV} (h : ansB o r = some (v, o')) : ∃ w, r = some w ∧ (v, o') = (w, o) := by
  cases r with
  | none => cases h
  | some w => cases h; exact ⟨_, rfl, rfl⟩
theorem res_some {r : Option (AV × Objs)} {v : AV} (h : res r = some v) : ∃ o, r = some (v, o) := by
  unfold res at h
  split at h
  · cases h; exact ⟨_, rfl⟩
  · cases h
theorem resO_some {r : Option (AV × Objs)} {ob : AObj} (h : resO r = some ob) : ∃ k o, r = some (.ref k, o) ∧ o[k]? = some ob := by
  unfold resO at h
  split at h
  · exact ⟨_, _, rfl, h⟩
  · cases h
section
variable {C : Cfg} {nd : Nat}
theorem tok_pl {base : Base} {n i : Nat} {W r : AV} {rest : List AV} {o : Objs} (T : Std C) (B : BaseOk C nd base) (K : Tok C 61 W) (hr : cvs 1000 tokT rest = rest) (h : res (CALLR base n i (W :: rest) []) = some r) (hp : plA r = true) : SC C (nd + 2 * n) (C.gval i) (.g 61 :: rest) o r o := by
  obtain ⟨o', e⟩ := res_some h
  refine lift_pl (o' := o') ?_ hp
  have e2 : cvs 1000 tokT (.g 61 :: rest) = .g 61 :: rest := by
    show cvA 1000 tokT (.g 61) :: cvs 1000 tokT rest = _
    rw [hr]; rfl
  rw [e2]
  refine (callR_ok T B e).1.weaken fun X γ led vs hv => ?_
  simp only [VRs] at hv ⊢
  obtain ⟨v, vs', rfl, h1, h2⟩ := hv
  exact ⟨v, vs', rfl, K.vr h1, h2⟩
theorem tok_ob {base : Base} {n i : Nat} {W : AV} {ob : AObj} {rest : List AV} {o : Objs} (T : Std C) (B : BaseOk C nd base) (K : Tok C 61 W) (hr : cvs 1000 tokT rest = rest) (h : resO (CALLR base n i (W :: rest) []) = some ob) (hp : plO ob = true) : SC C (nd + 2 * n) (C.gval i) (.g 61 :: rest) o (.ref o.length) (o ++ [ob]) := by
  obtain ⟨k, o', e, hk⟩ := resO_some h
  refine lift_ob (o' := o') ?_ hk hp
  have e2 : cvs 1000 tokT (.g 61 :: rest) = .g 61 :: rest := by
    show cvA 1000 tokT (.g 61) :: cvs 1000 tokT rest = _
    rw [hr]; rfl
  rw [e2]
  refine (callR_ok T B e).1.weaken fun X γ led vs hv => ?_
  simp only [VRs] at hv ⊢
  obtain ⟨v, vs', rfl, h1, h2⟩ := hv
  exact ⟨v, vs', rfl, K.vr h1, h2⟩
theorem msB_ok {T start : AV} {led : Bool} {a b c : Op} (S : Std C)
    (h4 : ∀ o, SC C nd (C.gval 4) [.g 61, T] o (.tup [start, .bool false]) o)
    (h6 : ∀ o, SC C nd (C.gval 6) [.g 61, start] o (.ref o.length) (o ++ [.list (Op.nm n_f_ a ++ Op.nm n_g_ b ++ Op.nm n_h_ c)]))
    (h7f : ∀ v, a.memq led = some v → ∀ o, SC C nd (C.gval 7) [.g 61, T, .str n_f_] o v o)
    (h7g : ∀ v, b.memq led = some v → ∀ o, SC C nd (C.gval 7) [.g 61, T, .str n_g_] o v o)
    (h7h : ∀ v, c.memq led = some v → ∀ o, SC C nd (C.gval 7) [.g 61, T, .str n_h_] o v o) : BaseOk C nd (msB T start led a b c) := by
  have an : ∀ {v : Option AV} {o r o'}, ansB o v = some (r, o') → v = some r ∧ o' = o := fun {v o r o'} h => by
    obtain ⟨w, e1, e2⟩ := ansB_some h
    cases e2
    exact ⟨e1, rfl⟩
  have s7 : ∀ {v : Option AV} {x : Nm}, (∀ w, v = some w → ∀ o, SC C nd (C.gval 7) [.g 61, T, .str x] o w o) → (∀ o r o', ansB o v = some (r, o') → SC C nd (C.gval 7) [.g 61, T, .str x] o r o') := fun {v x} H o r o' h => by
    obtain ⟨e1, e2⟩ := an h
    rw [e2]
    exact H _ e1 o
  exact findB_ok (all_cons ⟨fun o r o' h => by cases h; exact h4 o, kp_4 S⟩ (all_cons ⟨fun o r o' h => by cases h; exact h6 o, kp_6 S⟩
    (all_cons ⟨s7 h7f, kp_7 S⟩ (all_cons ⟨s7 h7g, kp_7 S⟩ (all_cons ⟨s7 h7h, kp_7 S⟩ all_nil)))))
end
end
section
noncomputable def opH (mf mg mh : Pm) (o : Oa) (x : Fg) : Op := match o with
  | .fld y t => match eqF x y with
    | true => match pmOf mf mg mh x with
      | none => .abs
      | some _ => .fld (.tup [.tup [(match t with | true => .int 0 | false => .int 1), .bool false]])
    | false => match pmOf mf mg mh x with
      | none => .abs
      | some (b, a) => .prom (match t with | true => 1 | false => 0) b a (keyOf n_m_N_ x.n)
  | .mth y b a => match eqF x y with
    | true => .own b a (keyOf n_m_H_ x.n)
    | false => match pmOf mf mg mh x with
      | none => .abs
      | some (b, a) => .prom 0 b a (keyOf n_m_N_ x.n)
  | .no => match pmOf mf mg mh x with
    | none => .abs
    | some (b, a) => .prom 0 b a (keyOf n_m_N_ x.n)
noncomputable def isMem (led : Bool) (op : Op) (r : Option AV) : Prop := ∀ v, op.memq led = some v → r = some v
theorem isMem_abs {led : Bool} {r : Option AV} : isMem led .abs r := fun v h => by cases h
theorem isMem_of {led : Bool} {op : Op} {r : Option AV} (h : r = some (op.mem led)) : isMem led op r := fun v e => by
  cases op <;> first | (cases e; exact h) | cases e
noncomputable def opN (mf mg mh : Pm) (x : Fg) : Op := match pmOf mf mg mh x with
  | none => .abs
  | some (b, a) => .own b a (keyOf n_m_N_ x.n)
noncomputable def WN (mf mg mh : Pm) : AV := WF (.fsub [n_m_N_] [rowN mf mg mh])
noncomputable def opL (st : AV) (b : Bool) (a : AV) (n : Nm) (i : Int) : List Op := [.abs, .fld st, .own false a n, .own true a n, .prom i false a n, .prom i true a n]
theorem op_ex (c : Op) : ∃ st b a n i, c ∈ opL st b a n i := by
  rcases c with _ | st | ⟨_ | _, a, n⟩ | ⟨i, _ | _, a, n⟩
  · exact ⟨.none, false, .none, [], 0, .head _⟩
  · exact ⟨st, false, .none, [], 0, .tail _ (.head _)⟩
  · exact ⟨.none, false, a, n, 0, .tail _ (.tail _ (.head _))⟩
  · exact ⟨.none, false, a, n, 0, .tail _ (.tail _ (.tail _ (.head _)))⟩
  · exact ⟨.none, false, a, n, i, .tail _ (.tail _ (.tail _ (.tail _ (.head _))))⟩
  · exact ⟨.none, false, a, n, i, .tail _ (.tail _ (.tail _ (.tail _ (.tail _ (.head _)))))⟩
noncomputable def tellM (led : Bool) (op : Op) (r : Option AV) : Option AV := match op.memq led with
  | some _ => r
  | none => none
theorem isMem_tell {led : Bool} {op : Op} {r : Option AV} (h : tellM led op r = op.memq led) : isMem led op r := fun v e => by
  unfold tellM at h
  rw [e] at h
  exact h
end
section
theorem fmH_f (mf mg mh : Pm) (led : Bool) (o : Oa) : isMem led (opH mf mg mh o .f) (res (CALLR nob 8 7 [W0 mf mg mh led o, holA, .str n_f_] [])) := by
  obtain ⟨b0, a0, h0⟩ := pm_ex mf
  obtain ⟨b, a, h⟩ := oa_ex o
  exact isMem_tell (mapX_eq (f := fun p : Pm × Bool × Oa => tellM (p.2.1) (opH p.1 mg mh (p.2.2) .f) (res (CALLR nob 8 7 [W0 p.1 mg mh (p.2.1) (p.2.2), holA, .str n_f_] [])))
    (g := fun p => (opH p.1 mg mh (p.2.2) .f).memq (p.2.1))
    (l := (prodL [none, some (b0, a0)] (prodL boolL (oaL b a)))) (by kernel_rfl) (mf, led, o) (prod_mem h0 (prod_mem (bool_mem led) h)))
theorem fmH_g (mf mg mh : Pm) (led : Bool) (o : Oa) : isMem led (opH mf mg mh o .g) (res (CALLR nob 8 7 [W0 mf mg mh led o, holA, .str n_g_] [])) := by
  obtain ⟨b0, a0, h0⟩ := pm_ex mf
  obtain ⟨b1, a1, h1⟩ := pm_ex mg
  obtain ⟨b, a, h⟩ := oa_ex o
  exact isMem_tell (mapX_eq (f := fun p : Pm × Pm × Bool × Oa => tellM (p.2.2.1) (opH p.1 p.2.1 mh (p.2.2.2) .g) (res (CALLR nob 8 7 [W0 p.1 p.2.1 mh (p.2.2.1) (p.2.2.2), holA, .str n_g_] [])))
    (g := fun p => (opH p.1 p.2.1 mh (p.2.2.2) .g).memq (p.2.2.1))
    (l := (prodL [none, some (b0, a0)] (prodL [none, some (b1, a1)] (prodL boolL (oaL b a))))) (by kernel_rfl) (mf, mg, led, o) (prod_mem h0 (prod_mem h1 (prod_mem (bool_mem led) h))))
theorem fmH_h (mf mg mh : Pm) (led : Bool) (o : Oa) : isMem led (opH mf mg mh o .h) (res (CALLR nob 8 7 [W0 mf mg mh led o, holA, .str n_h_] [])) := by
  obtain ⟨b0, a0, h0⟩ := pm_ex mf
  obtain ⟨b1, a1, h1⟩ := pm_ex mg
  obtain ⟨b2, a2, h2⟩ := pm_ex mh
  obtain ⟨b, a, h⟩ := oa_ex o
  exact isMem_tell (mapX_eq (f := fun p : Pm × Pm × Pm × Bool × Oa => tellM (p.2.2.2.1) (opH p.1 p.2.1 p.2.2.1 (p.2.2.2.2) .h) (res (CALLR nob 8 7 [W0 p.1 p.2.1 p.2.2.1 (p.2.2.2.1) (p.2.2.2.2), holA, .str n_h_] [])))
    (g := fun p => (opH p.1 p.2.1 p.2.2.1 (p.2.2.2.2) .h).memq (p.2.2.2.1))
    (l := (prodL [none, some (b0, a0)] (prodL [none, some (b1, a1)] (prodL [none, some (b2, a2)] (prodL boolL (oaL b a)))))) (by kernel_rfl) (mf, mg, mh, led, o) (prod_mem h0 (prod_mem h1 (prod_mem h2 (prod_mem (bool_mem led) h)))))
end
section
theorem fmQ_f (mf mg mh : Pm) (led : Bool) (o : Oa) : isMem led (opH mf mg mh o .f) (res (CALLR nob 8 7 [W0 mf mg mh led o, ptrA holA, .str n_f_] [])) := by
  obtain ⟨b0, a0, h0⟩ := pm_ex mf
  obtain ⟨b, a, h⟩ := oa_ex o
  exact isMem_tell (mapX_eq (f := fun p : Pm × Bool × Oa => tellM (p.2.1) (opH p.1 mg mh (p.2.2) .f) (res (CALLR nob 8 7 [W0 p.1 mg mh (p.2.1) (p.2.2), ptrA holA, .str n_f_] [])))
    (g := fun p => (opH p.1 mg mh (p.2.2) .f).memq (p.2.1))
    (l := (prodL [none, some (b0, a0)] (prodL boolL (oaL b a)))) (by kernel_rfl) (mf, led, o) (prod_mem h0 (prod_mem (bool_mem led) h)))
theorem fmQ_g (mf mg mh : Pm) (led : Bool) (o : Oa) : isMem led (opH mf mg mh o .g) (res (CALLR nob 8 7 [W0 mf mg mh led o, ptrA holA, .str n_g_] [])) := by
  obtain ⟨b0, a0, h0⟩ := pm_ex mf
  obtain ⟨b1, a1, h1⟩ := pm_ex mg
  obtain ⟨b, a, h⟩ := oa_ex o
  exact isMem_tell (mapX_eq (f := fun p : Pm × Pm × Bool × Oa => tellM (p.2.2.1) (opH p.1 p.2.1 mh (p.2.2.2) .g) (res (CALLR nob 8 7 [W0 p.1 p.2.1 mh (p.2.2.1) (p.2.2.2), ptrA holA, .str n_g_] [])))
    (g := fun p => (opH p.1 p.2.1 mh (p.2.2.2) .g).memq (p.2.2.1))
    (l := (prodL [none, some (b0, a0)] (prodL [none, some (b1, a1)] (prodL boolL (oaL b a))))) (by kernel_rfl) (mf, mg, led, o) (prod_mem h0 (prod_mem h1 (prod_mem (bool_mem led) h))))
theorem fmQ_h (mf mg mh : Pm) (led : Bool) (o : Oa) : isMem led (opH mf mg mh o .h) (res (CALLR nob 8 7 [W0 mf mg mh led o, ptrA holA, .str n_h_] [])) := by
  obtain ⟨b0, a0, h0⟩ := pm_ex mf
  obtain ⟨b1, a1, h1⟩ := pm_ex mg
  obtain ⟨b2, a2, h2⟩ := pm_ex mh
  obtain ⟨b, a, h⟩ := oa_ex o
  exact isMem_tell (mapX_eq (f := fun p : Pm × Pm × Pm × Bool × Oa => tellM (p.2.2.2.1) (opH p.1 p.2.1 p.2.2.1 (p.2.2.2.2) .h) (res (CALLR nob 8 7 [W0 p.1 p.2.1 p.2.2.1 (p.2.2.2.1) (p.2.2.2.2), ptrA holA, .str n_h_] [])))
    (g := fun p => (opH p.1 p.2.1 p.2.2.1 (p.2.2.2.2) .h).memq (p.2.2.2.1))
    (l := (prodL [none, some (b0, a0)] (prodL [none, some (b1, a1)] (prodL [none, some (b2, a2)] (prodL boolL (oaL b a)))))) (by kernel_rfl) (mf, mg, mh, led, o) (prod_mem h0 (prod_mem h1 (prod_mem h2 (prod_mem (bool_mem led) h)))))
end
section
theorem fmN_f (mf mg mh : Pm) : isMem false (opN mf mg mh .f) (res (CALLR nob 8 7 [WN mf mg mh, numA, .str n_f_] [])) := by
  rcases mf with _ | ⟨_, _⟩
  · exact isMem_abs
  · exact isMem_of (by kernel_rfl)
theorem fmN_g (mf mg mh : Pm) : isMem false (opN mf mg mh .g) (res (CALLR nob 8 7 [WN mf mg mh, numA, .str n_g_] [])) := by
  rcases mg with _ | ⟨_, _⟩
  · exact isMem_abs
  · rcases mf with _ | ⟨_, _⟩ <;> exact isMem_of (by kernel_rfl)
theorem fmN_h (mf mg mh : Pm) : isMem false (opN mf mg mh .h) (res (CALLR nob 8 7 [WN mf mg mh, numA, .str n_h_] [])) := by
  rcases mh with _ | ⟨_, _⟩
  · exact isMem_abs
  · rcases mf with _ | ⟨_, _⟩ <;> rcases mg with _ | ⟨_, _⟩ <;> exact isMem_of (by kernel_rfl)
theorem fmP_f (mf mg mh : Pm) : isMem false (opN mf mg mh .f) (res (CALLR nob 8 7 [WN mf mg mh, ptrA numA, .str n_f_] [])) := by
  rcases mf with _ | ⟨_, _⟩
  · exact isMem_abs
  · exact isMem_of (by kernel_rfl)
theorem fmP_g (mf mg mh : Pm) : isMem false (opN mf mg mh .g) (res (CALLR nob 8 7 [WN mf mg mh, ptrA numA, .str n_g_] [])) := by
  rcases mg with _ | ⟨_, _⟩
  · exact isMem_abs
  · rcases mf with _ | ⟨_, _⟩ <;> exact isMem_of (by kernel_rfl)
theorem fmP_h (mf mg mh : Pm) : isMem false (opN mf mg mh .h) (res (CALLR nob 8 7 [WN mf mg mh, ptrA numA, .str n_h_] [])) := by
  rcases mh with _ | ⟨_, _⟩
  · exact isMem_abs
  · rcases mf with _ | ⟨_, _⟩ <;> rcases mg with _ | ⟨_, _⟩ <;> exact isMem_of (by kernel_rfl)
theorem nmH0 (mh : Pm) (led : Bool) (o : Oa) : resO (CALLR nob 8 6 [W0 none none mh led o, holA] []) = some (.list (Op.nm n_f_ (opH none none mh o .f) ++ Op.nm n_g_ (opH none none mh o .g) ++ Op.nm n_h_ (opH none none mh o .h))) := by
  rcases mh with _ | ⟨_, _⟩ <;> cases led <;> cases o with
  | no => kernel_rfl
  | fld x t => cases x <;> cases t <;> kernel_rfl
  | mth x b a => cases x <;> kernel_rfl
theorem nmH1 (a : Bool) (b : AV) (mh : Pm) (led : Bool) (o : Oa) : resO (CALLR nob 8 6 [W0 (some (a, b)) none mh led o, holA] []) = some (.list (Op.nm n_f_ (opH (some (a, b)) none mh o .f) ++ Op.nm n_g_ (opH (some (a, b)) none mh o .g) ++ Op.nm n_h_ (opH (some (a, b)) none mh o .h))) := by
  rcases mh with _ | ⟨_, _⟩ <;> cases led <;> cases o with
  | no => kernel_rfl
  | fld x t => cases x <;> cases t <;> kernel_rfl
  | mth x b a => cases x <;> kernel_rfl
theorem nmH2 (c : Bool) (d : AV) (mh : Pm) (led : Bool) (o : Oa) : resO (CALLR nob 8 6 [W0 none (some (c, d)) mh led o, holA] []) = some (.list (Op.nm n_f_ (opH none (some (c, d)) mh o .f) ++ Op.nm n_g_ (opH none (some (c, d)) mh o .g) ++ Op.nm n_h_ (opH none (some (c, d)) mh o .h))) := by
  rcases mh with _ | ⟨_, _⟩ <;> cases led <;> cases o with
  | no => kernel_rfl
  | fld x t => cases x <;> cases t <;> kernel_rfl
  | mth x b a => cases x <;> kernel_rfl
theorem nmH3 (a : Bool) (b : AV) (c : Bool) (d : AV) (mh : Pm) (led : Bool) (o : Oa) : resO (CALLR nob 8 6 [W0 (some (a, b)) (some (c, d)) mh led o, holA] []) = some (.list (Op.nm n_f_ (opH (some (a, b)) (some (c, d)) mh o .f) ++ Op.nm n_g_ (opH (some (a, b)) (some (c, d)) mh o .g) ++ Op.nm n_h_ (opH (some (a, b)) (some (c, d)) mh o .h))) := by
  rcases mh with _ | ⟨_, _⟩ <;> cases led <;> cases o with
  | no => kernel_rfl
  | fld x t => cases x <;> cases t <;> kernel_rfl
  | mth x b a => cases x <;> kernel_rfl
theorem nmH (mf mg mh : Pm) (led : Bool) (o : Oa) : resO (CALLR nob 8 6 [W0 mf mg mh led o, holA] []) = some (.list (Op.nm n_f_ (opH mf mg mh o .f) ++ Op.nm n_g_ (opH mf mg mh o .g) ++ Op.nm n_h_ (opH mf mg mh o .h))) := by
  rcases mf with _ | ⟨a, b⟩ <;> rcases mg with _ | ⟨c, d⟩
  · exact nmH0 mh led o
  · exact nmH2 c d mh led o
  · exact nmH1 a b mh led o
  · exact nmH3 a b c d mh led o
theorem nmN (mf mg mh : Pm) : resO (CALLR nob 8 6 [WN mf mg mh, numA] []) = some (.list (Op.nm n_f_ (opN mf mg mh .f) ++ Op.nm n_g_ (opN mf mg mh .g) ++ Op.nm n_h_ (opN mf mg mh .h))) := by
  rcases mf with _ | ⟨_, _⟩ <;> rcases mg with _ | ⟨_, _⟩ <;> rcases mh with _ | ⟨_, _⟩ <;> kernel_rfl
theorem stH (mf mg mh : Pm) (led : Bool) (o : Oa) : res (CALLR nob 8 4 [W0 mf mg mh led o, holA] []) = some (.tup [holA, .bool false]) := by
  cases o with
  | no => kernel_rfl
  | fld x t => cases t <;> kernel_rfl
  | mth x b a => kernel_rfl
theorem stQ (mf mg mh : Pm) (led : Bool) (o : Oa) : res (CALLR nob 8 4 [W0 mf mg mh led o, ptrA holA] []) = some (.tup [holA, .bool false]) := by
  cases o with
  | no => kernel_rfl
  | fld x t => cases t <;> kernel_rfl
  | mth x b a => kernel_rfl
theorem stN (mf mg mh : Pm) : res (CALLR nob 8 4 [WN mf mg mh, numA] []) = some (.tup [numA, .bool false]) := by kernel_rfl
theorem stP (mf mg mh : Pm) : res (CALLR nob 8 4 [WN mf mg mh, ptrA numA] []) = some (.tup [numA, .bool false]) := by kernel_rfl
end
section
theorem msH (led : Bool) (a b c : Op) : resO (CALLR (msB (holA) (holA) led a b c) 3 9 [.g 61, holA] []) = some (msD [(n_f_, a.in false led), (n_g_, b.in false led), (n_h_, c.in false led)]) := by
  obtain ⟨s1, b1, a1, n1, i1, h1⟩ := op_ex a
  obtain ⟨s2, b2, a2, n2, i2, h2⟩ := op_ex b
  obtain ⟨s3, b3, a3, n3, i3, h3⟩ := op_ex c
  exact mapX_eq (f := fun p : Bool × Op × Op × Op => resO (CALLR (msB (holA) (holA) p.1 p.2.1 p.2.2.1 p.2.2.2) 3 9 [.g 61, holA] []))
    (g := fun p => some (msD [(n_f_, p.2.1.in false p.1), (n_g_, p.2.2.1.in false p.1), (n_h_, p.2.2.2.in false p.1)]))
    (l := prodL boolL (prodL (opL s1 b1 a1 n1 i1) (prodL (opL s2 b2 a2 n2 i2) (opL s3 b3 a3 n3 i3)))) (by kernel_rfl) (led, a, b, c) (prod_mem (bool_mem led) (prod_mem h1 (prod_mem h2 h3)))
theorem msQ (led : Bool) (a b c : Op) : resO (CALLR (msB (ptrA holA) (holA) led a b c) 3 9 [.g 61, ptrA holA] []) = some (msD [(n_f_, a.in true led), (n_g_, b.in true led), (n_h_, c.in true led)]) := by
  obtain ⟨s1, b1, a1, n1, i1, h1⟩ := op_ex a
  obtain ⟨s2, b2, a2, n2, i2, h2⟩ := op_ex b
  obtain ⟨s3, b3, a3, n3, i3, h3⟩ := op_ex c
  exact mapX_eq (f := fun p : Bool × Op × Op × Op => resO (CALLR (msB (ptrA holA) (holA) p.1 p.2.1 p.2.2.1 p.2.2.2) 3 9 [.g 61, ptrA holA] []))
    (g := fun p => some (msD [(n_f_, p.2.1.in true p.1), (n_g_, p.2.2.1.in true p.1), (n_h_, p.2.2.2.in true p.1)]))
    (l := prodL boolL (prodL (opL s1 b1 a1 n1 i1) (prodL (opL s2 b2 a2 n2 i2) (opL s3 b3 a3 n3 i3)))) (by kernel_rfl) (led, a, b, c) (prod_mem (bool_mem led) (prod_mem h1 (prod_mem h2 h3)))
end
section
noncomputable def pmL2 (a : AV) : List Pm := [none, some (false, a), some (true, a)]
theorem pm_ex2 (m : Pm) : ∃ a, m ∈ pmL2 a := by
  rcases m with _ | ⟨_ | _, a⟩
  · exact ⟨.none, .head _⟩
  · exact ⟨a, .tail _ (.head _)⟩
  · exact ⟨a, .tail _ (.tail _ (.head _))⟩
theorem msN (mf mg mh : Pm) : resO (CALLR (msB (numA) numA false (opN mf mg mh .f) (opN mf mg mh .g) (opN mf mg mh .h)) 3 9 [.g 61, numA] []) = some (msD [(n_f_, (opN mf mg mh .f).in false false), (n_g_, (opN mf mg mh .g).in false false), (n_h_, (opN mf mg mh .h).in false false)]) := by
  obtain ⟨a1, h1⟩ := pm_ex2 mf
  obtain ⟨a2, h2⟩ := pm_ex2 mg
  obtain ⟨a3, h3⟩ := pm_ex2 mh
  exact mapX_eq (f := fun p : Pm × Pm × Pm => resO (CALLR (msB (numA) numA false (opN p.1 p.2.1 p.2.2 .f) (opN p.1 p.2.1 p.2.2 .g) (opN p.1 p.2.1 p.2.2 .h)) 3 9 [.g 61, numA] []))
    (g := fun p => some (msD [(n_f_, (opN p.1 p.2.1 p.2.2 .f).in false false), (n_g_, (opN p.1 p.2.1 p.2.2 .g).in false false), (n_h_, (opN p.1 p.2.1 p.2.2 .h).in false false)]))
    (l := prodL (pmL2 a1) (prodL (pmL2 a2) (pmL2 a3))) (by kernel_rfl) (mf, mg, mh) (prod_mem h1 (prod_mem h2 h3))
theorem msP (mf mg mh : Pm) : resO (CALLR (msB (ptrA numA) numA false (opN mf mg mh .f) (opN mf mg mh .g) (opN mf mg mh .h)) 3 9 [.g 61, ptrA numA] []) = some (msD [(n_f_, (opN mf mg mh .f).in true false), (n_g_, (opN mf mg mh .g).in true false), (n_h_, (opN mf mg mh .h).in true false)]) := by
  obtain ⟨a1, h1⟩ := pm_ex2 mf
  obtain ⟨a2, h2⟩ := pm_ex2 mg
  obtain ⟨a3, h3⟩ := pm_ex2 mh
  exact mapX_eq (f := fun p : Pm × Pm × Pm => resO (CALLR (msB (ptrA numA) numA false (opN p.1 p.2.1 p.2.2 .f) (opN p.1 p.2.1 p.2.2 .g) (opN p.1 p.2.1 p.2.2 .h)) 3 9 [.g 61, ptrA numA] []))
    (g := fun p => some (msD [(n_f_, (opN p.1 p.2.1 p.2.2 .f).in true false), (n_g_, (opN p.1 p.2.1 p.2.2 .g).in true false), (n_h_, (opN p.1 p.2.1 p.2.2 .h).in true false)]))
    (l := prodL (pmL2 a1) (prodL (pmL2 a2) (pmL2 a3))) (by kernel_rfl) (mf, mg, mh) (prod_mem h1 (prod_mem h2 h3))
end
section
noncomputable def SN (C : Cfg) (nd : Nat) (n : Nat) (env : Env) (X : List Addr) (t : Sem Flow) (l : Loc) (o : Objs) (fl : FL) (l' : Loc) (o' : Objs) : Prop :=
  ∀ (A : Around) (s : Shared) (γ₀ : List Addr) (led₀ : Led) (γ : List Addr) (led : Led) (Q : Flow → Shared → Prop) (E : Value → Shared → Prop), γ₀.length = n → Room A nd → Ext (ownE env) γ₀ led₀ γ led → At C env X γ led l o s.heap →
    (∀ f h' tk γ' led', At C env X γ' led' l' o' h' → Ext (ownE env) γ₀ led₀ γ' led' → FR C X γ' led' fl f → Q f { s with heap := h', toks := tk }) →
    wpAny (model C.prog C.w) A t Q E s
noncomputable def Cv (C : Cfg) (n : Nat) (l : Loc) (o : Objs) (l' : Loc) (o' : Objs) : Prop :=
  ∀ (env : Env) (X γ₀ : List Addr) (led₀ : Led) (γ : List Addr) (led : Led) (h : Heap), γ₀.length = n → Ext (ownE env) γ₀ led₀ γ led → At C env X γ led l o h → ∃ γ', Ext (ownE env) γ₀ led₀ γ' led ∧ At C env X γ' led l' o' h
noncomputable def SM (C : Cfg) (nd n : Nat) (m : MSs) (l : Loc) (o : Objs) (fl : FL) (l' : Loc) (o' : Objs) : Prop :=
  ∀ (kd : KD) (env : Env) (X : List Addr) (ss : List Stmt), EnvOk env X → (∀ n, env.kindOf n = kd n) → chkSs gls0 kd m ss = true → SN C nd n env X (execs ss env) l o fl l' o'
noncomputable def S1 (C : Cfg) (nd n : Nat) (m : MS) (l : Loc) (o : Objs) (fl : FL) (l' : Loc) (o' : Objs) : Prop :=
  ∀ (kd : KD) (env : Env) (X : List Addr) (st : Stmt), EnvOk env X → (∀ n, env.kindOf n = kd n) → chkS gls0 kd m st = true → SN C nd n env X (exec st env) l o fl l' o'
section
variable {C : Cfg} {nd n : Nat} {env : Env} {X : List Addr} {t : Sem Flow} {l l' l₁ l₂ : Loc} {o o' o₁ o₂ : Objs} {fl : FL} {m : MS} {ms : MSs} {v : AV}
theorem SS.sn (h : SS C nd env X t l o fl l' o') : SN C nd n env X t l o fl l' o' := fun A s γ₀ led₀ γ led Q E hn R e D hQ =>
  h A s γ led Q E R D fun f h' tk γ' led' D' e' hf => hQ f h' tk γ' led' D' (e.trans e') hf
theorem SN.ss (h : SN C nd o.length env X t l o fl l' o') : SS C nd env X t l o fl l' o' := fun A s γ led Q E R D hQ =>
  h A s γ led γ led Q E D.rel.len R .refl D hQ
theorem SN.pre (h : SN C nd n env X t l₁ o₁ fl l' o') (c : Cv C n l o l₁ o₁) : SN C nd n env X t l o fl l' o' := fun A s γ₀ led₀ γ led Q E hn R e D hQ => by
  obtain ⟨γ', e', D'⟩ := c env X γ₀ led₀ γ led _ hn e D
  exact h A s γ₀ led₀ γ' led Q E hn R e' D' hQ
theorem SN.post (h : SN C nd n env X t l o .next l₁ o₁) (c : Cv C n l₁ o₁ l' o') : SN C nd n env X t l o .next l' o' := fun A s γ₀ led₀ γ led Q E hn R e D hQ =>
  h A s γ₀ led₀ γ led Q E hn R e D fun f h' tk γ' led' D' e' hf => by
    obtain ⟨γ2, e2, D2⟩ := c env X γ₀ led₀ γ' led' _ hn e' D'
    exact hQ f h' tk γ2 led' D2 e2 hf
theorem sn_cons {st : Stmt} {rest : List Stmt} (h1 : SN C nd n env X (exec st env) l o .next l₁ o₁) (h2 : SN C nd n env X (execs rest env) l₁ o₁ fl l' o') : SN C nd n env X (execs (st :: rest) env) l o fl l' o' := by
  intro A s γ₀ led₀ γ led Q E hn R e D hQ
  refine wpAny_execs_cons (h1 A s γ₀ led₀ γ led _ E hn R e D fun f h' tk γ' led' D' e' hf => ?_)
  simp only [FR] at hf
  subst hf
  exact h2 A _ γ₀ led₀ γ' led' Q E hn R e' D' fun f h2 tk2 γ2 led2 D2 e2 hf => hQ f h2 tk2 γ2 led2 D2 e2 hf
theorem sn_cons_ret {st : Stmt} {rest : List Stmt} (h1 : SN C nd n env X (exec st env) l o (.ret v) l₁ o₁) : SN C nd n env X (execs (st :: rest) env) l o (.ret v) l₁ o₁ := by
  intro A s γ₀ led₀ γ led Q E hn R e D hQ
  refine wpAny_execs_cons (h1 A s γ₀ led₀ γ led _ E hn R e D fun f h' tk γ' led' D' e' hf => ?_)
  obtain ⟨w, rfl, hw⟩ := hf
  exact hQ (.ret w) h' tk γ' led' D' e' ⟨w, rfl, hw⟩
theorem SM.nil : SM C nd n .nil l o .next l o := fun kd env X ss V hk h => by
  cases ss with
  | nil => exact SS.sn ss_nil
  | cons => exact nfB h
theorem SM.cons (h1 : S1 C nd n m l o .next l₁ o₁) (h2 : SM C nd n ms l₁ o₁ fl l' o') : SM C nd n (.cons m ms) l o fl l' o' := fun kd env X ss V hk h => by
  cases ss with
  | nil => exact nfB h
  | cons s r =>
    exact sn_cons (h1 kd env X s V hk (and2 h).1) (h2 kd env X r V hk (and2 h).2)
theorem SM.ret (h1 : S1 C nd n m l o (.ret v) l' o') : SM C nd n (.cons m ms) l o (.ret v) l' o' := fun kd env X ss V hk h => by
  cases ss with
  | nil => exact nfB h
  | cons s r =>
    exact sn_cons_ret (h1 kd env X s V hk (and2 h).1)
theorem SM.pre (h : SM C nd n ms l₁ o₁ fl l' o') (c : Cv C n l o l₁ o₁) : SM C nd n ms l o fl l' o' := fun kd env X ss V hk q => (h kd env X ss V hk q).pre c
theorem SM.post (h : SM C nd n ms l o .next l₁ o₁) (c : Cv C n l₁ o₁ l' o') : SM C nd n ms l o .next l' o' := fun kd env X ss V hk q => (h kd env X ss V hk q).post c
theorem S1.pre (h : S1 C nd n m l₁ o₁ fl l' o') (c : Cv C n l o l₁ o₁) : S1 C nd n m l o fl l' o' := fun kd env X ss V hk q => (h kd env X ss V hk q).pre c
theorem S1.post (h : S1 C nd n m l o .next l₁ o₁) (c : Cv C n l₁ o₁ l' o') : S1 C nd n m l o .next l' o' := fun kd env X ss V hk q => (h kd env X ss V hk q).post c
theorem SS.mono {a b : Nat} (h : SS C a env X t l o fl l' o') (hb : a ≤ b) : SS C b env X t l o fl l' o' := fun A s γ led Q E R D hQ => h A s γ led Q E (R.le hb) D hQ
theorem SN.mono {a b : Nat} (h : SN C a n env X t l o fl l' o') (hb : a ≤ b) : SN C b n env X t l o fl l' o' := fun A s γ₀ led₀ γ led Q E hn R e D hQ => h A s γ₀ led₀ γ led Q E hn (R.le hb) e D hQ
theorem SM.mono {a b : Nat} (h : SM C a n ms l o fl l' o') (hb : a ≤ b) : SM C b n ms l o fl l' o' := fun kd env X ss V hk q => (h kd env X ss V hk q).mono hb
theorem S1.mono {a b : Nat} (h : S1 C a n m l o fl l' o') (hb : a ≤ b) : S1 C b n m l o fl l' o' := fun kd env X ss V hk q => (h kd env X ss V hk q).mono hb
theorem S1.of {O : Orc} (T : Std C) (OK : OrcOk C nd O) (hg : O.gls = gls0) (h : exS O m l o = some (fl, l', o')) : S1 C nd n m l o fl l' o' := fun kd env X st V hk q =>
  SS.sn (exS_ok T.ok OK (std_en T) m V hk (by rw [hg]; exact q) _ _ _ _ _ h)
theorem SM.of {O : Orc} (T : Std C) (OK : OrcOk C nd O) (hg : O.gls = gls0) (h : exSs O ms l o = some (fl, l', o')) : SM C nd n ms l o fl l' o' := fun kd env X st V hk q =>
  SS.sn (exSs_ok T.ok OK (std_en T) ms V hk (by rw [hg]; exact q) _ _ _ _ _ h)
theorem Cv.refl : Cv C n l o l o := fun env X γ₀ led₀ γ led h hn e D => ⟨γ, e, D⟩
theorem Cv.trans (a : Cv C n l o l₁ o₁) (b : Cv C n l₁ o₁ l₂ o₂) : Cv C n l o l₂ o₂ := fun env X γ₀ led₀ γ led h hn e D => by
  obtain ⟨γ1, e1, D1⟩ := a env X γ₀ led₀ γ led h hn e D
  exact b env X γ₀ led₀ γ1 led h hn e1 D1
noncomputable def Wk (C : Cfg) (a b : AV) : Prop := ∀ X γ led v, VR C X γ led a v → VR C X γ led b v
theorem Wk.refl {a : AV} : Wk C a a := fun _ _ _ _ h => h
theorem Wk.top {a : AV} : Wk C a .top := fun _ _ _ _ h => by simp only [VR]
theorem at_weak {γ : List Addr} {led : Led} {h : Heap} (w : ∀ x b, lk l' x = some b → ∃ a, lk l x = some a ∧ Wk C a b) (D : At C env X γ led l o h) : At C env X γ led l' o h := by
  obtain ⟨oL, m, h1, h2, h3⟩ := D.loc
  refine ⟨D.hold, D.rel, ⟨oL, m, h1, h2, fun x av e => ?_⟩, D.cel⟩
  obtain ⟨a, ea, wa⟩ := w x av e
  have q := h3 x a ea
  refine ⟨fun hk => ?_, fun hk => ?_⟩
  · obtain ⟨v, p1, p2⟩ := q.1 hk
    exact ⟨v, p1, wa _ _ _ _ p2⟩
  · obtain ⟨c, oc, v, p1, p2, p3, p4⟩ := q.2 hk
    exact ⟨c, oc, v, p1, p2, p3, wa _ _ _ _ p4⟩
theorem Cv.loc (w : ∀ x b, lk l' x = some b → ∃ a, lk l x = some a ∧ Wk C a b) : Cv C n l o l' o := fun env X γ₀ led₀ γ led h hn e D => ⟨γ, e, at_weak w D⟩
inductive WkL (C : Cfg) (l : Loc) : Loc → Prop
  | nil : WkL C l []
  | cons {x : Nm} {a b : AV} {r : Loc} : lk l x = some a → Wk C a b → WkL C l r → WkL C l ((x, b) :: r)
theorem WkL.get (h : WkL C l l') : ∀ x b, lk l' x = some b → ∃ a, lk l x = some a ∧ Wk C a b := by
  induction h with
  | nil => intro x b e; cases e
  | @cons y a b r h1 h2 _ ih =>
    intro x c e
    have e : (match eqN y x with | true => some b | false => lk r x) = some c := e
    cases q : eqN y x with
    | true =>
      rw [q] at e
      cases e
      rw [← eqN_iff.mp q]
      exact ⟨_, h1, h2⟩
    | false => rw [q] at e; exact ih x c e
theorem Cv.locs (w : WkL C l l') : Cv C n l o l' o := .loc w.get
noncomputable def keepL (l : Loc) : List Nm → Loc
  | [] => []
  | x :: r => match lk l x with
    | some v => (x, v) :: keepL l r
    | none => keepL l r
theorem keepL_wk : ∀ (xs : List Nm), WkL C l (keepL l xs)
  | [] => .nil
  | x :: r => by
    unfold keepL
    split
    · exact .cons ‹_› .refl (keepL_wk r)
    · exact keepL_wk r
theorem Cv.keep (xs : List Nm) (e : keepL l xs = l') : Cv C n l o l' o := by rw [← e]; exact .locs (keepL_wk xs)
noncomputable def mapL (f : AV → AV) (l : Loc) : Loc := l.map fun p => (p.1, f p.2)
theorem lk_map (f : AV → AV) : ∀ (l : Loc) (x : Nm), lk (mapL f l) x = (lk l x).map f
  | [], x => rfl
  | p :: r, x => by
    show (match eqN p.1 x with | true => some (f p.2) | false => lk (mapL f r) x) = (match eqN p.1 x with | true => some p.2 | false => lk r x).map f
    cases eqN p.1 x with
    | true => rfl
    | false => exact lk_map f r x
theorem Cv.cmp {k : Nat} {rest : List Nat} (hk : (List.range n ++ rest).Nodup) (hc : cmpO o (frz o (List.range n ++ rest) k) (List.range n ++ rest) (List.range n ++ rest) = some o') (hl : mapL (cvA 1000 (frz o (List.range n ++ rest) k)) l = l') : Cv C n l o l' o' := by
  subst hl
  intro env X γ₀ led₀ γ led h hn e D
  obtain ⟨R2, cv⟩ := cmpk_ok D.rel hk hc
  refine ⟨pick γ (List.range n ++ rest), ext_pick e D.rel hn hk hc, D.hold, R2, ?_, D.cel⟩
  obtain ⟨oL, m, h1, h2, h3⟩ := D.loc
  refine ⟨oL, m, h1, h2, fun x av e => ?_⟩
  rw [lk_map] at e
  cases ea : lk l x with
  | none => rw [ea] at e; cases e
  | some a =>
    rw [ea] at e
    cases e
    have q := h3 x a ea
    refine ⟨fun hk => ?_, fun hk => ?_⟩
    · obtain ⟨v, p1, p2⟩ := q.1 hk
      exact ⟨v, p1, cv _ _ p2⟩
    · obtain ⟨c, oc, v, p1, p2, p3, p4⟩ := q.2 hk
      exact ⟨c, oc, v, p1, p2, p3, cv _ _ p4⟩
end
end
section
section
variable {C : Cfg} {nd n : Nat} {l l' l₁ l₂ : Loc} {o o' o₁ o₂ : Objs} {fl : FL} {v : AV}
noncomputable def XE (C : Cfg) (nd : Nat) (e : ME) (l : Loc) (o : Objs) (r : AV) (o' : Objs) : Prop :=
  ∀ (kd : KD) (env : Env) (X : List Addr) (ex : PySem.Expr), EnvOk env X → (∀ n, env.kindOf n = kd n) → chkE gls0 kd e ex = true → SE C nd env X (eval ex env) l o r o'
noncomputable def XT (C : Cfg) (nd : Nat) (e : ME) (l : Loc) (o : Objs) (r : Bool) (o' : Objs) : Prop :=
  ∀ (kd : KD) (env : Env) (X : List Addr) (ex : PySem.Expr), EnvOk env X → (∀ n, env.kindOf n = kd n) → chkE gls0 kd e ex = true → ST C nd env X (isTrue ex env (eval ex env)) l o r o'
theorem XE.of {O : Orc} {e : ME} {r : AV} (T : Std C) (OK : OrcOk C nd O) (hg : O.gls = gls0) (h : (ev O e).1 l o = some (r, o')) : XE C nd e l o r o' := fun kd env X ex V hk q =>
  (ev_ok T.ok OK e V hk (by rw [hg]; exact q)).1 _ _ _ _ h
theorem XT.of {O : Orc} {e : ME} {r : Bool} (T : Std C) (OK : OrcOk C nd O) (hg : O.gls = gls0) (h : (ev O e).2 l o = some (r, o')) : XT C nd e l o r o' := fun kd env X ex V hk q =>
  (ev_ok T.ok OK e V hk (by rw [hg]; exact q)).2 _ _ _ _ h
theorem se_weak {env : Env} {X : List Addr} {t : Sem Value} {r : AV} (V : EnvOk env X) (w : WkL C l l') (h : SE C nd env X t l' o r o') : SE C nd env X t l o r o' := fun A s γ led Q E R D hQ =>
  h A s γ led Q E R (at_weak w.get D) fun v h' tk γ' led' D' e' hv => hQ v h' tk γ' led' (D.ext V e' D'.hold D'.rel) e' hv
theorem st_weak {env : Env} {X : List Addr} {t : Sem Bool} {r : Bool} (V : EnvOk env X) (w : WkL C l l') (h : ST C nd env X t l' o r o') : ST C nd env X t l o r o' := fun A s γ led Q E R D hQ =>
  h A s γ led Q E R (at_weak w.get D) fun h' tk γ' led' D' e' => hQ h' tk γ' led' (D.ext V e' D'.hold D'.rel) e'
theorem XE.weak {e : ME} {r : AV} (h : XE C nd e l' o r o') (w : WkL C l l') : XE C nd e l o r o' := fun kd env X ex V hk q => se_weak V w (h kd env X ex V hk q)
theorem XT.weak {e : ME} {r : Bool} (h : XT C nd e l' o r o') (w : WkL C l l') : XT C nd e l o r o' := fun kd env X ex V hk q => st_weak V w (h kd env X ex V hk q)
theorem ST.sn_if {env : Env} {X : List Addr} {t : PySem.Expr} {a b : List Stmt} {pos : Pos} {c : Bool} (h1 : ST C nd env X (isTrue t env (eval t env)) l o c o₁) (h2 : SN C nd n env X (execs (match c with | true => a | false => b) env) l o₁ fl l' o') : SN C nd n env X (exec (.If t a b pos) env) l o fl l' o' := by
  intro A s γ₀ led₀ γ led Q E hn R e D hQ
  refine wpAny_If (h1 A s γ led _ E R D fun h' tk γ' led' D' e' => ?_)
  cases c with
  | true => exact h2 A _ γ₀ led₀ γ' led' Q E hn R (e.trans e'.nil) D' hQ
  | false => exact h2 A _ γ₀ led₀ γ' led' Q E hn R (e.trans e'.nil) D' hQ
theorem S1.ifS {e : ME} {a b : MSs} {c : Bool} (h1 : XT C nd e l o c o₁) (h2 : SM C nd n (match c with | true => a | false => b) l o₁ fl l' o') : S1 C nd n (.ifS e a b) l o fl l' o' := fun kd env X st V hk h => by
  refine vSIf_el ?_ h
  clear h
  intro t' a' b' p q h
  subst q
  obtain ⟨g, g3⟩ := and2 h
  obtain ⟨g1, g2⟩ := and2 g
  refine ST.sn_if (h1 kd env X t' V hk g1) ?_
  cases c with
  | true => exact h2 kd env X a' V hk g2
  | false => exact h2 kd env X b' V hk g3
theorem S1.forS {xs : List Nm} {it : ME} {b : MSs} {bv : SV} {src : Src} {f : Nat} (T : Std C) (h1 : XE C nd it l o v o₁) (hs : srcOf o₁ v = some src)
    (hb : ∀ l o fl l' o', bv l o = some (fl, l', o') → SM C nd o.length b l o fl l' o') (h : forGo src xs bv f 0 l o₁ = some (fl, l', o')) : S1 C nd n (.forS xs it b) l o fl l' o' := fun kd env X st V hk q => by
  refine vSFor_el (fun t iter be els p e0 q => ?_) q
  subst e0
  obtain ⟨e1, q⟩ := and2 q
  cases isNil_ok e1
  obtain ⟨g, q4⟩ := and2 q
  obtain ⟨g, q3⟩ := and2 g
  obtain ⟨q1, q2⟩ := and2 g
  exact SS.sn (ss_for T.ok V (tgtB_ok hk q1) q2 (h1 kd env X iter V hk q3) hs (fun P l o fl l' o' e => (hb l o fl l' o' e kd env (P ++ X) be V.more hk q4).ss) h)
theorem S1.forR {x : Nm} {it : ME} {b : MSs} {bv : SV} {q f : Nat} (T : Std C) (h1 : XE C nd it l o (.int (.ofNat q)) o₁) (hq : q < 64)
    (hb : ∀ l o fl l' o', bv l o = some (fl, l', o') → SM C nd o.length b l o fl l' o') (h : forGo (.items (rangeA q)) [x] bv f 0 l o₁ = some (fl, l', o')) : S1 C nd n (.forR x it b) l o fl l' o' := fun kd env X st V hk h0 => by
  refine vSFor_el (fun t it2 be els p e0 h0 => ?_) h0
  subst e0
  obtain ⟨e1, h0⟩ := and2 h0
  cases isNil_ok e1
  refine vECall_el (fun f args kws p0 e0 h0 => ?_) h0
  subst e0
  obtain ⟨e1, h0⟩ := and2 h0
  cases isNil_ok e1
  refine oneL_el (fun iter q2 h => nmB_el (fun y p2 q3 h => nmB_el (fun n p1 q4 h => ?_) h) h) h0
  subst q4 q3 q2
  obtain ⟨g1, g2⟩ := and2 h
  obtain ⟨g3, k4⟩ := and2 g1
  obtain ⟨g4, k3⟩ := and2 g3
  obtain ⟨g5, k2⟩ := and2 g4
  obtain ⟨k0, k1⟩ := and2 g5
  obtain ⟨k5, k6⟩ := and2 g2
  cases sEq_ok k5
  cases sEq_ok k0
  exact SS.sn (ss_forR T.ok V (by rw [hk]; exact okK_ok k1) k2 (std_en T).g58 (se_gl T.ok V (std_en T).rn (by rw [hk]; exact isGlob_ok k6) (debug_no (by decide))) (h1 kd env X iter V hk k3) hq (fun P l o fl l' o' e => (hb l o fl l' o' e kd env (P ++ X) be V.more hk k4).ss) ‹forGo _ _ _ _ _ _ _ = _›)
noncomputable def HandOk (C : Cfg) (a : Addr) (pn : List Nm) (da : List AV) (m : MSs) : Prop :=
  ∀ (nd : Nat) args o fl l' o', args.length + da.length = pn.length → SM C nd o.length m (pn.zip (args ++ da)) o fl l' o' → SCc C (nd + 1) (.ref a) args o (retOf fl) o'
theorem hand_ok {a : Addr} {pn : List Nm} {da : List AV} {dv : List Value} {m : MSs} {fd : FuncData} (T : Std C) (D : DefIs C a pn dv (bodyF fd) fd.scope) (hda : ∀ X γ led, VRs C X γ led da dv) (hc : chkSs gls0 (fun n => fd.scope.names.lookup n) m (bodyF fd) = true) : HandOk C a pn da m := by
  intro nd args o fl l' o' hl he
  have S := def_code (nd := nd) T.ok T.ok.nolimit D hda hl fun env X V hsc => (he _ env X (bodyF fd) V (fun n => by show env.scope.names.lookup n = _; rw [hsc]) hc).ss
  cases fl <;> exact S
theorem hand_3 {a : Addr} {pn : List Nm} {m : MSs} {fd : FuncData} (T : Std C) (h1 : fdOf (KK C.w) a = some fd) (h2 : defB (KK C.w) fd pn = true) (h3 : chkSs gls0 (fun n => fd.scope.names.lookup n) m (bodyF fd) = true)
    (h4 : ∀ (vs : List Value), vs.length = pn.length → bindArgs fd ⟨vs, []⟩ = pure ((pn.map toS).zip vs)) : HandOk C a pn [] m :=
  hand_ok (dv := []) T (di_of (by rw [T.K]; exact h1) (by rw [T.K]; exact h2) fun s vs X hl => by rw [List.append_nil]; exact BindsTo.of_eq (h4 vs hl)) (fun X γ led => by simp only [VRs]) h3
theorem hand_10 (T : Std C) : HandOk C 188 p_lack_of [] b_lack_of := by
  obtain ⟨fd, h1, h2, h3, h4⟩ := fd_10 C.w
  exact hand_3 T h1 h2 h3 fun vs hl => by obtain ⟨a, b, c, d, rfl⟩ := len4 hl; exact h4 a b c d
theorem hand_11 (T : Std C) : HandOk C 195 p_implements [] b_implements := by
  obtain ⟨fd, h1, h2, h3, h4⟩ := fd_11 C.w
  exact hand_3 T h1 h2 h3 fun vs hl => by obtain ⟨a, b, c, rfl⟩ := len3 hl; exact h4 a b c
theorem hand_14 (T : Std C) : HandOk C 276 p__law_pool [] b__law_pool := by
  obtain ⟨fd, h1, h2, h3, h4⟩ := fd_14 C.w
  exact hand_3 T h1 h2 h3 fun vs hl => by obtain ⟨a, b, rfl⟩ := len2 hl; exact h4 a b
theorem hand_18 (T : Std C) : HandOk C 306 p__law_marks [] b__law_marks := by
  obtain ⟨fd, h1, h2, h3, h4⟩ := fd_18 C.w
  exact hand_3 T h1 h2 h3 fun vs hl => by obtain ⟨a, rfl⟩ := len1 hl; exact h4 a
theorem hand_19 (T : Std C) : HandOk C 311 p__law_built [] b__law_built := by
  obtain ⟨fd, h1, h2, h3, h4⟩ := fd_19 C.w
  exact hand_3 T h1 h2 h3 fun vs hl => by obtain ⟨a, b, c, rfl⟩ := len3 hl; exact h4 a b c
theorem hand_20 (T : Std C) : HandOk C 318 p__law_seen [] b__law_seen := by
  obtain ⟨fd, h1, h2, h3, h4⟩ := fd_20 C.w
  exact hand_3 T h1 h2 h3 fun vs hl => by obtain ⟨a, b, c, d, rfl⟩ := len4 hl; exact h4 a b c d
theorem hand_21 (T : Std C) : HandOk C 325 p__law_due [] b__law_due := by
  obtain ⟨fd, h1, h2, h3, h4⟩ := fd_21 C.w
  exact hand_3 T h1 h2 h3 fun vs hl => by obtain ⟨a, b, rfl⟩ := len2 hl; exact h4 a b
theorem hand_24 (T : Std C) : HandOk C 344 p_law [] b_law := by
  obtain ⟨fd, h1, h2, h3, h4⟩ := fd_24 C.w
  exact hand_3 T h1 h2 h3 fun vs hl => by obtain ⟨a, rfl⟩ := len1 hl; exact h4 a
end
end
section
inductive Why where
  | miss
  | ptr
  | oth
noncomputable def Why.n : Why → Nm
  | .miss => n_missing_
  | .ptr => n_pointer_receiver_
  | .oth => n_other_type_
noncomputable abbrev Vd := Option (Fg × Why)
noncomputable def firstV {α : Type} (vd : α → Vd) : List α → Vd
  | [] => none
  | v :: r => match vd v with
    | some a => some a
    | none => firstV vd r
noncomputable def flOf : Vd → FL
  | none => .next
  | some (x, y) => .ret (.tup [.str x.n, .str y.n])
noncomputable def vdA : Vd → AV
  | none => .none
  | some (x, y) => .tup [.str x.n, .str y.n]
theorem forGo_first {α : Type} {src : Src} {tgt : List Nm} {b : SV} {o : Objs} (g : α → AV) (L : α → Loc) (vd : α → Vd) (body : ∀ v, b (L v) o = some (flOf (vd v), L v, o)) (hb : ∀ u v, bindT tgt (g v) (L u) = some (L v)) :
    ∀ (items : List α) (k f : Nat) (l : Loc), (∀ j, srcItem o (k + j) src = some ((items.map g)[j]?)) → (∀ v, bindT tgt (g v) l = some (L v)) → items.length < f → ∃ l', forGo src tgt b f k l o = some (flOf (firstV vd items), l', o) ∧ (l' = l ∨ ∃ v, l' = L v)
  | [], k, f, l, hs, hl, hf => by
    cases f with
    | zero => exact absurd hf (Nat.lt_irrefl 0)
    | succ f => exact ⟨l, oa_eq (hs 0) rfl, .inl rfl⟩
  | v :: r, k, f, l, hs, hl, hf => by
    cases f with
    | zero => exact absurd hf (Nat.not_lt_zero _)
    | succ f =>
      have e1 : ∀ {R}, oxM (b (L v) o) (fun l o => forGo src tgt b f (k + 1) l o) = R → forGo src tgt b (f + 1) k l o = R := fun h => oa_eq (hs 0) (oa_eq (hl v) h)
      have e2 := body v
      have e3 : firstV vd (v :: r) = (match vd v with | some a => some a | none => firstV vd r) := rfl
      cases q : vd v with
      | some a =>
        rw [q] at e2 e3
        exact ⟨L v, by rw [e3]; exact e1 (ox_ret e2), .inr ⟨v, rfl⟩⟩
      | none =>
        rw [q] at e2 e3
        obtain ⟨l', h1, h2⟩ := forGo_first g L vd body hb r (k + 1) f (L v) (fun j => by rw [Nat.add_assoc, Nat.add_comm 1 j]; exact hs (j + 1)) (hb v) (Nat.lt_of_succ_lt_succ hf)
        exact ⟨l', by rw [e3]; exact e1 (ox_next e2 h1), h2.elim (fun e => .inr ⟨v, e⟩) .inr⟩
noncomputable abbrev Ent := Option (AV × AV × Bool)
noncomputable def entL (a b : AV) : List Ent := [none, some (a, b, false), some (a, b, true)]
theorem ent_ex (e : Ent) : ∃ a b, e ∈ entL a b := by
  rcases e with _ | ⟨a, b, _ | _⟩
  · exact ⟨.none, .none, .head _⟩
  · exact ⟨a, b, .tail _ (.head _)⟩
  · exact ⟨a, b, .tail _ (.tail _ (.head _))⟩
noncomputable def entA : Ent → Option (AV × AV × AV)
  | none => none
  | some (a, b, s) => some (a, b, psort s)
noncomputable def msE (ef eg eh : Ent) : AObj := msD [(n_f_, entA ef), (n_g_, entA eg), (n_h_, entA eh)]
noncomputable def sel {α : Type} (a b c : α) : Fg → α
  | .f => a
  | .g => b
  | .h => c
noncomputable def eqB : Bool → Bool → Bool
  | true, b => b
  | false, b => !b
noncomputable def lackN (e : Ent) (s : Bool) : Why := match e with
  | some (_, _, t) => match eqB t s with
    | true => .ptr
    | false => .miss
  | none => .miss
noncomputable def lB (ef eg eh : Ent) : Base := findB [(9, [.g 61, .tup [.str n_ptr_, .g 63]], fun o => some (.ref o.length, o ++ [msE ef eg eh]))]
noncomputable def iB (ef eg eh : Ent) (lk : Fg → Bool → Why) : Base := findB ((9, [.g 61, .g 63], fun o => some (.ref o.length, o ++ [msE ef eg eh])) :: (prodL fgL boolL).map fun p => (10, [.g 61, .g 63, .str p.1.n, psort p.2], fun o => some (.str (lk p.1 p.2).n, o)))
noncomputable def sB (r : AV) : Base := findB [(11, [.g 61, .g 63, .g 62], fun o => some (r, o))]
section
variable {C : Cfg} {nd : Nat}
theorem lB_ok {ef eg eh : Ent} (S : Std C) (h9 : ∀ o, SC C nd (C.gval 9) [.g 61, ptrA (.g 63)] o (.ref o.length) (o ++ [msE ef eg eh])) : BaseOk C nd (lB ef eg eh) :=
  findB_ok (all_cons ⟨fun o r o' h => by cases h; exact h9 o, kp_9 S⟩ all_nil)
theorem iB_ok {ef eg eh : Ent} {lk : Fg → Bool → Why} (S : Std C) (h9 : ∀ o, SC C nd (C.gval 9) [.g 61, .g 63] o (.ref o.length) (o ++ [msE ef eg eh])) (h10 : ∀ x s o, SC C nd (C.gval 10) [.g 61, .g 63, .str (Fg.n x), psort s] o (.str (lk x s).n) o) : BaseOk C nd (iB ef eg eh lk) :=
  findB_ok (all_cons ⟨fun o r o' h => by cases h; exact h9 o, kp_9 S⟩ fun e he => by
    obtain ⟨p, _, rfl⟩ := List.mem_map.mp he
    exact ⟨fun o r o' h => by cases h; exact h10 p.1 p.2 o, kp_10 S⟩)
theorem sB_ok {r : AV} (S : Std C) (h : ∀ o, SC C nd (C.gval 11) [.g 61, .g 63, .g 62] o r o) : BaseOk C nd (sB r) :=
  findB_ok (all_cons ⟨fun o r' o' e => by cases e; exact h o, kp_11 S⟩ all_nil)
end
end
section
noncomputable def hdM : MSs → MS
  | .cons m _ => m
  | .nil => .fail
noncomputable def tlM : MSs → MSs
  | .cons _ r => r
  | .nil => .nil
noncomputable def testM : MS → ME
  | .ifS t _ _ => t
  | _ => .c .none
noncomputable def thenM : MS → MSs
  | .ifS _ a _ => a
  | _ => .nil
noncomputable def iterM : MS → ME
  | .forS _ it _ => it
  | .forR _ it _ => it
  | _ => .c .none
noncomputable def bodyM : MS → MSs
  | .forS _ _ b => b
  | .forR _ _ b => b
  | _ => .nil
noncomputable def lackL (x : Fg) (s : Bool) : Loc := [(n_world_, .g 61), (n_told_, .g 63), (n_name_, .str x.n), (n_func_, psort s)]
noncomputable def lackF (e : Ent) (s : Bool) : FL := match e with
  | some (_, _, t) => match eqB t s with
    | true => .ret (.str n_pointer_receiver_)
    | false => .next
  | none => .next
theorem lackBody (ef eg eh : Ent) (x : Fg) (s : Bool) : exSs (orcX (lB ef eg eh) 3) (thenM (hdM b_lack_of)) (lackL x s) [] = some (lackF (sel ef eg eh x) s, lackL x s ++ [(n_others_, .ref 0)], [msE ef eg eh]) := by
  obtain ⟨a1, b1, h1⟩ := ent_ex ef
  obtain ⟨a2, b2, h2⟩ := ent_ex eg
  obtain ⟨a3, b3, h3⟩ := ent_ex eh
  exact mapX_eq (f := fun p : Ent × Ent × Ent × Fg × Bool => exSs (orcX (lB p.1 p.2.1 p.2.2.1) 3) (thenM (hdM b_lack_of)) (lackL p.2.2.2.1 p.2.2.2.2) [])
    (g := fun p => some (lackF (sel p.1 p.2.1 p.2.2.1 p.2.2.2.1) p.2.2.2.2, lackL p.2.2.2.1 p.2.2.2.2 ++ [(n_others_, .ref 0)], [msE p.1 p.2.1 p.2.2.1]))
    (l := prodL (entL a1 b1) (prodL (entL a2 b2) (prodL (entL a3 b3) (prodL fgL boolL)))) (by kernel_rfl) (ef, eg, eh, x, s) (prod_mem h1 (prod_mem h2 (prod_mem h3 (prod_mem (fg_mem x) (bool_mem s)))))
section
variable {C : Cfg} {nd : Nat}
theorem lack_look {ef eg eh : Ent} {W T : AV} {x : Fg} {s : Bool} {o : Objs} (S : Std C) (K : Tok C 61 W) (K3 : Tok C 63 T) (h9 : ∀ o, SC C nd (C.gval 9) [.g 61, ptrA T] o (.ref o.length) (o ++ [msE ef eg eh]))
    (ht : (ev (orcX nob 4) (testM (hdM b_lack_of))).2 [(n_world_, W), (n_told_, T)] [] = some (true, [])) : SC C (nd + 40) (C.gval 10) [.g 61, .g 63, .str x.n, psort s] o (.str (lackN (sel ef eg eh x) s).n) o := by
  have h9' : ∀ o, SC C nd (C.gval 9) [.g 61, ptrA (.g 63)] o (.ref o.length) (o ++ [msE ef eg eh]) := fun o => (h9 o).weaken fun X γ led vs hv => by
    simp only [VRs, ptrA, VR] at hv ⊢
    obtain ⟨v, vs', rfl, h1, v2, vs2, rfl, ⟨a, ws, n, rfl, h3, w1, ws1, rfl, h4, w2, ws2, rfl, h5, rfl⟩, rfl⟩ := hv
    exact ⟨v, _, rfl, h1, _, _, rfl, ⟨a, _, n, rfl, h3, w1, _, rfl, h4, w2, _, rfl, by rw [h5]; exact K3 X γ led, rfl⟩, rfl⟩
  have wk : WkL C (lackL x s) [(n_world_, W), (n_told_, T)] := .cons (a := .g 61) (by kernel_rfl) (fun _ _ _ _ h => K.vr h) (.cons (a := .g 63) (by cases x <;> kernel_rfl) (fun _ _ _ _ h => K3.vr h) .nil)
  have hT : XT C (nd + 20) (testM (hdM b_lack_of)) (lackL x s) [] true [] := (XT.of S ((orcX_ok S (nd := nd + 12) nob_ok 4)) (orcX_gls _ _) ht).weak wk
  have hB : SM C (nd + 20) 0 (thenM (hdM b_lack_of)) (lackL x s) [] (lackF (sel ef eg eh x) s) (lackL x s ++ [(n_others_, .ref 0)]) [msE ef eg eh] := (SM.of S (orcX_ok S (lB_ok S h9') 3) (orcX_gls _ _) (lackBody ef eg eh x s)).mono (by omega)
  have hI := S1.ifS (a := thenM (hdM b_lack_of)) (b := .nil) hT hB
  have F := hand_10 S (nd + 20) [.g 61, .g 63, .str x.n, psort s] []
  rw [show C.gval 10 = .ref 188 from S.gv 10 (by decide)]
  have fin : ∃ o', SC C (nd + 40) (.ref 188) [.g 61, .g 63, .str x.n, psort s] [] (.str (lackN (sel ef eg eh x) s).n) o' := by
    generalize sel ef eg eh x = e at hI
    have miss : lackF e s = .next → lackN e s = .miss → ∃ o', SC C (nd + 40) (.ref 188) [.g 61, .g 63, .str x.n, psort s] [] (.str (lackN e s).n) o' := fun h1 h2 => by
      rw [h1] at hI
      have h3 : SM C (nd + 20) 0 b_lack_of (lackL x s) [] (.ret (.str n_missing_)) (lackL x s ++ [(n_others_, .ref 0)]) [msE ef eg eh] := SM.cons hI (SM.ret (S1.of S ((orcX_ok S (nd := nd + 20) nob_ok 0)) (orcX_gls _ _) (by kernel_rfl)))
      have := F _ _ _ rfl h3
      rw [h2]
      exact ⟨_, this.sc.mono (by omega)⟩
    rcases e with _ | ⟨a, b, t⟩
    · exact miss rfl rfl
    · cases q : eqB t s with
      | false => exact miss (by simp only [lackF, q]) (by simp only [lackN, q])
      | true =>
        have h1 : lackF (some (a, b, t)) s = .ret (.str n_pointer_receiver_) := by simp only [lackF, q]
        rw [h1] at hI
        have := F _ _ _ rfl (SM.ret (ms := tlM b_lack_of) hI)
        have h2 : lackN (some (a, b, t)) s = .ptr := by simp only [lackN, q]
        rw [h2]
        exact ⟨_, this.sc.mono (by omega)⟩
  obtain ⟨o', fin⟩ := fin
  exact lift_pl (by cases s <;> exact fin) rfl
end
end
section
noncomputable abbrev Row := Fg × Bool
noncomputable def implL : Loc := [(n_world_, .g 61), (n_told_, .g 63), (n_wanted_, .g 62)]
noncomputable def implM : Loc := implL ++ [(n_methods_, .ref 0)]
noncomputable def askA (r : Row) : AV := .tup [.str r.1.n, psort r.2]
noncomputable def implN (r : Row) : Loc := implM ++ [(n_name_, .str r.1.n), (n_func_, psort r.2)]
noncomputable def vI (ef eg eh : Ent) (lk : Fg → Bool → Why) (r : Row) : Vd := match sel ef eg eh r.1 with
  | none => some (r.1, lk r.1 r.2)
  | some (_, _, t) => match eqB t r.2 with
    | true => none
    | false => some (r.1, .oth)
theorem implBody (ef eg eh : Ent) (lk : Fg → Bool → Why) (r : Row) : exSs (orcX (iB ef eg eh lk) 3) (bodyM (hdM (tlM b_implements))) (implN r) [msE ef eg eh] = some (flOf (vI ef eg eh lk r), implN r, [msE ef eg eh]) := by
  obtain ⟨a1, b1, h1⟩ := ent_ex ef
  obtain ⟨a2, b2, h2⟩ := ent_ex eg
  obtain ⟨a3, b3, h3⟩ := ent_ex eh
  exact mapX_eq (f := fun p : Ent × Ent × Ent × Row => exSs (orcX (iB p.1 p.2.1 p.2.2.1 lk) 3) (bodyM (hdM (tlM b_implements))) (implN p.2.2.2) [msE p.1 p.2.1 p.2.2.1])
    (g := fun p => some (flOf (vI p.1 p.2.1 p.2.2.1 lk p.2.2.2), implN p.2.2.2, [msE p.1 p.2.1 p.2.2.1]))
    (l := prodL (entL a1 b1) (prodL (entL a2 b2) (prodL (entL a3 b3) (prodL fgL boolL)))) (by kernel_rfl) (ef, eg, eh, r) (prod_mem h1 (prod_mem h2 (prod_mem h3 (prod_mem (fg_mem r.1) (bool_mem r.2)))))
theorem implBind (u : Loc) (r : Row) (h : u = implM ∨ ∃ q, u = implN q) : bindT [n_name_, n_func_] (askA r) u = some (implN r) := by
  rcases h with rfl | ⟨⟨y, t⟩, rfl⟩
  · kernel_rfl
  · kernel_rfl
section
variable {C : Cfg} {nd : Nat}
theorem impl_ok {ef eg eh : Ent} {lk : Fg → Bool → Why} {W wA : AV} {rows : List Row} (S : Std C) (K : Tok C 61 W) (K2 : Tok C 62 wA) (h9 : ∀ o, SC C nd (C.gval 9) [.g 61, .g 63] o (.ref o.length) (o ++ [msE ef eg eh])) (h10 : ∀ x s o, SC C nd (C.gval 10) [.g 61, .g 63, .str (Fg.n x), psort s] o (.str (lk x s).n) o)
    (hw : ∀ ob, (ev (orcX nob 4) (iterM (hdM (tlM b_implements)))).1 [(n_world_, W), (n_wanted_, wA)] [ob] = some (.tup (rows.map askA), [ob])) (hr : rows.length < 100) (o : Objs) : SC C (nd + 40) (C.gval 11) [.g 61, .g 63, .g 62] o (vdA (firstV (vI ef eg eh lk) rows)) o := by
  have B := iB_ok S h9 h10
  have h1 : S1 C (nd + 20) 0 (hdM b_implements) implL [] .next implM [msE ef eg eh] := (S1.of S (orcX_ok S B 3) (orcX_gls _ _) (by kernel_rfl)).mono (by omega)
  have wk : WkL C implM [(n_world_, W), (n_wanted_, wA)] := .cons (a := .g 61) (by kernel_rfl) (fun _ _ _ _ h => K.vr h) (.cons (a := .g 62) (by kernel_rfl) (fun _ _ _ _ h => K2.vr h) .nil)
  have hi : XE C (nd + 20) (iterM (hdM (tlM b_implements))) implM [msE ef eg eh] (.tup (rows.map askA)) [msE ef eg eh] := (XE.of S ((orcX_ok S (nd := nd + 12) nob_ok 4)) (orcX_gls _ _) (hw _)).weak wk
  obtain ⟨l', hf, _⟩ := forGo_first (src := .items (rows.map askA)) (tgt := [n_name_, n_func_]) (o := [msE ef eg eh]) askA implN (vI ef eg eh lk) (implBody ef eg eh lk) (fun u v => implBind _ v (.inr ⟨u, rfl⟩)) rows 0 100 implM (fun j => by rw [Nat.zero_add]; rfl) (fun v => implBind _ v (.inl rfl)) hr
  have h2 : S1 C (nd + 20) 0 (hdM (tlM b_implements)) implM [msE ef eg eh] (flOf (firstV (vI ef eg eh lk) rows)) l' [msE ef eg eh] := S1.forS S hi rfl (fun l o fl l' o' e => (SM.of S (orcX_ok S B 3) (orcX_gls _ _) e).mono (by omega)) hf
  have F := hand_11 S (nd + 20) [.g 61, .g 63, .g 62] []
  rw [show C.gval 11 = .ref 195 from S.gv 11 (by decide)]
  cases q : firstV (vI ef eg eh lk) rows with
  | none =>
    rw [q] at h2
    have h3 : SM C (nd + 20) 0 b_implements implL [] (.ret .none) l' [msE ef eg eh] := SM.cons h1 (SM.cons h2 (SM.ret (S1.of S ((orcX_ok S (nd := nd + 20) nob_ok 0)) (orcX_gls _ _) rfl)))
    exact lift_pl ((F _ _ _ rfl h3).sc.mono (by omega)) rfl
  | some p =>
    rw [q] at h2
    have h3 : SM C (nd + 20) 0 b_implements implL [] (flOf (some p)) l' [msE ef eg eh] := SM.cons h1 (SM.ret h2)
    exact lift_pl ((F _ _ _ rfl h3).sc.mono (by omega)) rfl
theorem soRun (r : Vd) : run (orcX (sB (vdA r)) 3) p__law_is_so [] b__law_is_so [.g 61, .g 63, .g 62, vdA r] [] = some (.bool true, []) := by
  rcases r with _ | ⟨x, y⟩
  · kernel_rfl
  · cases x <;> cases y <;> kernel_rfl
theorem so_ok {r : Vd} (S : Std C) (h : ∀ o, SC C nd (C.gval 11) [.g 61, .g 63, .g 62] o (vdA r) o) : SCc C (nd + 10) (C.gval 23) [.g 61, .g 63, .g 62, vdA r] [] (.bool true) [] := by
  rw [show C.gval 23 = .ref 337 from S.gv 23 (by decide)]
  exact (run_ok (fn_23 S.ok (std_en S) S.K) (orcX_ok S (sB_ok S h) 3) (orcX_gls _ _) (soRun r)).mono (by omega)
end
end
section
noncomputable def pm : Mk → Pm
  | none => none
  | some (b, s) => some (b, psort s)
noncomputable def oaOf : Ov → Oa
  | .no => .no
  | .fld x t => .fld x t
  | .mth x b s => .mth x b (psort s)
noncomputable def entN (ptr : Bool) (x : Fg) : Mk → Ent
  | none => none
  | some (b, s) => match b, ptr with
    | true, false => none
    | _, _ => some (.tup [], .str (keyOf n_m_N_ x.n), s)
noncomputable def entP (ptr led : Bool) (i : Int) (x : Fg) : Mk → Ent
  | none => none
  | some (b, s) => match b, ptr, led with
    | true, false, false => none
    | _, _, _ => some (.tup [.tup [.int i, .bool led]], .str (keyOf n_m_N_ x.n), s)
noncomputable def entH (ptr led : Bool) (mf mg mh : Mk) (o : Ov) (x : Fg) : Ent := match o with
  | .no => entP ptr led 0 x (sel mf mg mh x)
  | .fld y t => match eqF x y with
    | true => none
    | false => entP ptr led (match t with | true => 1 | false => 0) x (sel mf mg mh x)
  | .mth y b s => match eqF x y with
    | true => match b, ptr with
      | true, false => none
      | _, _ => some (.tup [], .str (keyOf n_m_H_ x.n), s)
    | false => entP ptr led 0 x (sel mf mg mh x)
theorem opN_in (ptr : Bool) (mf mg mh : Mk) (x : Fg) : (opN (pm mf) (pm mg) (pm mh) x).in ptr false = entA (entN ptr x (sel mf mg mh x)) := by
  cases x with
  | f => exact mapX_eq (f := fun p : Mk × Bool => (opN (pm p.1) (pm mg) (pm mh) .f).in p.2 false) (g := fun p => entA (entN p.2 .f p.1)) (l := prodL mkL boolL) (by kernel_rfl) (mf, ptr) (prod_mem (mk_mem mf) (bool_mem ptr))
  | g => exact mapX_eq (f := fun p : Mk × Bool => (opN (pm mf) (pm p.1) (pm mh) .g).in p.2 false) (g := fun p => entA (entN p.2 .g p.1)) (l := prodL mkL boolL) (by kernel_rfl) (mg, ptr) (prod_mem (mk_mem mg) (bool_mem ptr))
  | h => exact mapX_eq (f := fun p : Mk × Bool => (opN (pm mf) (pm mg) (pm p.1) .h).in p.2 false) (g := fun p => entA (entN p.2 .h p.1)) (l := prodL mkL boolL) (by kernel_rfl) (mh, ptr) (prod_mem (mk_mem mh) (bool_mem ptr))
theorem nm_pl (mf mg mh : Mk) : plO (.list (Op.nm n_f_ (opN (pm mf) (pm mg) (pm mh) .f) ++ Op.nm n_g_ (opN (pm mf) (pm mg) (pm mh) .g) ++ Op.nm n_h_ (opN (pm mf) (pm mg) (pm mh) .h))) = true :=
  mapX_eq (f := fun p : Mk × Mk × Mk => plO (.list (Op.nm n_f_ (opN (pm p.1) (pm p.2.1) (pm p.2.2) .f) ++ Op.nm n_g_ (opN (pm p.1) (pm p.2.1) (pm p.2.2) .g) ++ Op.nm n_h_ (opN (pm p.1) (pm p.2.1) (pm p.2.2) .h)))) (g := fun _ => true) (l := prodL mkL (prodL mkL mkL)) (by kernel_rfl) (mf, mg, mh) (prod_mem (mk_mem mf) (prod_mem (mk_mem mg) (mk_mem mh)))
theorem msD_pl (ptr : Bool) (mf mg mh : Mk) : plO (msD [(n_f_, (opN (pm mf) (pm mg) (pm mh) .f).in ptr false), (n_g_, (opN (pm mf) (pm mg) (pm mh) .g).in ptr false), (n_h_, (opN (pm mf) (pm mg) (pm mh) .h).in ptr false)]) = true :=
  mapX_eq (f := fun p : Bool × Mk × Mk × Mk => plO (msD [(n_f_, (opN (pm p.2.1) (pm p.2.2.1) (pm p.2.2.2) .f).in p.1 false), (n_g_, (opN (pm p.2.1) (pm p.2.2.1) (pm p.2.2.2) .g).in p.1 false), (n_h_, (opN (pm p.2.1) (pm p.2.2.1) (pm p.2.2.2) .h).in p.1 false)])) (g := fun _ => true) (l := prodL boolL (prodL mkL (prodL mkL mkL))) (by kernel_rfl) (ptr, mf, mg, mh) (prod_mem (bool_mem ptr) (prod_mem (mk_mem mf) (prod_mem (mk_mem mg) (mk_mem mh))))
noncomputable def memPl (o : Option AV) : Bool := match o with
  | some v => plA v
  | none => true
theorem opN_pl (mf mg mh : Mk) (x : Fg) : memPl ((opN (pm mf) (pm mg) (pm mh) x).memq false) = true := by
  cases x with
  | f => exact mapX_eq (f := fun m : Mk => memPl ((opN (pm m) (pm mg) (pm mh) .f).memq false)) (g := fun _ => true) (l := mkL) (by kernel_rfl) mf (mk_mem mf)
  | g => exact mapX_eq (f := fun m : Mk => memPl ((opN (pm mf) (pm m) (pm mh) .g).memq false)) (g := fun _ => true) (l := mkL) (by kernel_rfl) mg (mk_mem mg)
  | h => exact mapX_eq (f := fun m : Mk => memPl ((opN (pm mf) (pm mg) (pm m) .h).memq false)) (g := fun _ => true) (l := mkL) (by kernel_rfl) mh (mk_mem mh)
theorem opP_in (ptr led : Bool) (i : Int) (x : Fg) (m : Mk) : (match pm m with | none => Op.abs | some (b, a) => .prom i b a (keyOf n_m_N_ x.n)).in ptr led = entA (entP ptr led i x m) := by
  exact mapX_eq (f := fun p : Mk × Bool × Bool => (match pm p.1 with | none => Op.abs | some (b, a) => .prom i b a (keyOf n_m_N_ x.n)).in p.2.1 p.2.2) (g := fun p => entA (entP p.2.1 p.2.2 i x p.1)) (l := prodL mkL (prodL boolL boolL)) (by kernel_rfl) (m, ptr, led) (prod_mem (mk_mem m) (prod_mem (bool_mem ptr) (bool_mem led)))
theorem pmOf_sel (mf mg mh : Mk) (x : Fg) : pmOf (pm mf) (pm mg) (pm mh) x = pm (sel mf mg mh x) := by cases x <;> rfl
theorem opH_in (ptr led : Bool) (mf mg mh : Mk) (o : Ov) (x : Fg) : (opH (pm mf) (pm mg) (pm mh) (oaOf o) x).in ptr led = entA (entH ptr led mf mg mh o x) := by
  cases o with
  | no =>
    simp only [opH, entH, oaOf, pmOf_sel]
    exact opP_in ptr led 0 x _
  | fld y t =>
    simp only [opH, entH, oaOf, pmOf_sel]
    cases eqF x y with
    | true => cases sel mf mg mh x <;> rfl
    | false => exact opP_in ptr led _ x _
  | mth y b s =>
    simp only [opH, entH, oaOf, pmOf_sel]
    cases eqF x y with
    | true => cases b <;> cases ptr <;> rfl
    | false => exact opP_in ptr led 0 x _
structure TypeIs (C : Cfg) (nd : Nat) (ef eg eh : Ent) (lk : Fg → Bool → Why) : Prop where
  h9 : ∀ o, SC C nd (C.gval 9) [.g 61, .g 63] o (.ref o.length) (o ++ [msE ef eg eh])
  h10 : ∀ x s o, SC C nd (C.gval 10) [.g 61, .g 63, .str (Fg.n x), psort s] o (.str (lk x s).n) o
section
variable {C : Cfg} {nd : Nat}
theorem tok_self {i : Nat} : Tok C i (.g i) := fun X γ led => by simp only [VR]
theorem two_tok {f : Value} {T r : AV} {o o' : Objs} (K3 : Tok C 63 T) (h : SC C nd f [.g 61, T] o r o') : SC C nd f [.g 61, .g 63] o r o' := h.weaken fun X γ led vs hv => by
  simp only [VRs] at hv ⊢
  obtain ⟨v, vs', rfl, h1, v2, vs2, rfl, h2, rfl⟩ := hv
  exact ⟨v, _, rfl, h1, v2, _, rfl, K3.vr h2, rfl⟩
theorem four_tok {f : Value} {T r a b : AV} {o o' : Objs} (K3 : Tok C 63 T) (h : SC C nd f [.g 61, T, a, b] o r o') : SC C nd f [.g 61, .g 63, a, b] o r o' := h.weaken fun X γ led vs hv => by
  simp only [VRs] at hv ⊢
  obtain ⟨v, vs', rfl, h1, v2, vs2, rfl, h2, h3⟩ := hv
  exact ⟨v, _, rfl, h1, v2, _, rfl, K3.vr h2, h3⟩
theorem ms_num (S : Std C) {mf mg mh : Mk} (K : Tok C 61 (WN (pm mf) (pm mg) (pm mh))) (ptr : Bool) (o : Objs) : SC C 40 (C.gval 9) [.g 61, (match ptr with | true => ptrA numA | false => numA)] o (.ref o.length) (o ++ [msE (entN ptr .f mf) (entN ptr .g mg) (entN ptr .h mh)]) := by
  have e : msE (entN ptr .f mf) (entN ptr .g mg) (entN ptr .h mh) = msD [(n_f_, (opN (pm mf) (pm mg) (pm mh) .f).in ptr false), (n_g_, (opN (pm mf) (pm mg) (pm mh) .g).in ptr false), (n_h_, (opN (pm mf) (pm mg) (pm mh) .h).in ptr false)] := by
    rw [opN_in, opN_in, opN_in]; rfl
  rw [e]
  have h6 : ∀ o, SC C 16 (C.gval 6) [.g 61, numA] o (.ref o.length) (o ++ [.list (Op.nm n_f_ (opN (pm mf) (pm mg) (pm mh) .f) ++ Op.nm n_g_ (opN (pm mf) (pm mg) (pm mh) .g) ++ Op.nm n_h_ (opN (pm mf) (pm mg) (pm mh) .h))]) := fun o => tok_ob (nd := 0) S nob_ok K rfl (nmN _ _ _) (nm_pl _ _ _)
  have pq : ∀ (x : Fg) (v : AV), (opN (pm mf) (pm mg) (pm mh) x).memq false = some v → plA v = true := fun x v e => by
    have := opN_pl mf mg mh x
    rw [e] at this
    exact this
  cases ptr with
  | false =>
    have B : BaseOk C 16 (msB numA numA false (opN (pm mf) (pm mg) (pm mh) .f) (opN (pm mf) (pm mg) (pm mh) .g) (opN (pm mf) (pm mg) (pm mh) .h)) := msB_ok S (fun o => tok_pl (nd := 0) S nob_ok K rfl (stN _ _ _) rfl) h6
      (fun v hv o => tok_pl (nd := 0) S nob_ok K rfl (fmN_f _ _ _ v hv) (pq .f v hv))
      (fun v hv o => tok_pl (nd := 0) S nob_ok K rfl (fmN_g _ _ _ v hv) (pq .g v hv))
      (fun v hv o => tok_pl (nd := 0) S nob_ok K rfl (fmN_h _ _ _ v hv) (pq .h v hv))
    exact (tok_ob S B tok_self rfl (msN _ _ _) (msD_pl _ _ _ _)).mono (by omega)
  | true =>
    have B : BaseOk C 16 (msB (ptrA numA) numA false (opN (pm mf) (pm mg) (pm mh) .f) (opN (pm mf) (pm mg) (pm mh) .g) (opN (pm mf) (pm mg) (pm mh) .h)) := msB_ok S (fun o => tok_pl (nd := 0) S nob_ok K rfl (stP _ _ _) rfl) h6
      (fun v hv o => tok_pl (nd := 0) S nob_ok K rfl (fmP_f _ _ _ v hv) (pq .f v hv))
      (fun v hv o => tok_pl (nd := 0) S nob_ok K rfl (fmP_g _ _ _ v hv) (pq .g v hv))
      (fun v hv o => tok_pl (nd := 0) S nob_ok K rfl (fmP_h _ _ _ v hv) (pq .h v hv))
    exact (tok_ob S B tok_self rfl (msP _ _ _) (msD_pl _ _ _ _)).mono (by omega)
end
end
section
noncomputable def entPl : Ent → Bool
  | none => true
  | some (a, b, _) => (plA a).and (plA b)
theorem plMsE {ef eg eh : Ent} (h1 : entPl ef = true) (h2 : entPl eg = true) (h3 : entPl eh = true) : plO (msE ef eg eh) = true := by
  have one : ∀ {a b : AV} (s : Bool), ((plA a).and (plA b)) = true → plA (.tup [a, b, psort s]) = true := fun {a b} s h => by
    rw [Bool.and_eq_true] at h
    show ((plA a).and ((plA b).and ((plA (psort s)).and true))) = true
    rw [h.1, h.2]
    cases s <;> rfl
  have cons : ∀ {x : AV} {xs : List AV}, plA x = true → plAs xs = true → plAs (x :: xs) = true := fun {x xs} a b => by
    simp only [plAs, Bool.and_eq_true]; exact ⟨a, b⟩
  rcases ef with _ | ⟨a, b, s⟩ <;> rcases eg with _ | ⟨a', b', s'⟩ <;> rcases eh with _ | ⟨a'', b'', s''⟩
  · rfl
  · exact cons (one _ h3) rfl
  · exact cons (one _ h2) rfl
  · exact cons (one _ h2) (cons (one _ h3) rfl)
  · exact cons (one _ h1) rfl
  · exact cons (one _ h1) (cons (one _ h3) rfl)
  · exact cons (one _ h1) (cons (one _ h2) rfl)
  · exact cons (one _ h1) (cons (one _ h2) (cons (one _ h3) rfl))
theorem plEntP (ptr led : Bool) (i : Int) (x : Fg) (m : Mk) : entPl (entP ptr led i x m) = true := by
  rcases m with _ | ⟨_ | _, _⟩ <;> cases ptr <;> cases led <;> rfl
theorem plEntH (ptr led : Bool) (mf mg mh : Mk) (o : Ov) (x : Fg) : entPl (entH ptr led mf mg mh o x) = true := by
  cases o with
  | no => exact plEntP ..
  | fld y t =>
    simp only [entH]
    cases eqF x y with
    | true => rfl
    | false => exact plEntP ..
  | mth y b s =>
    simp only [entH]
    cases eqF x y with
    | true => cases b <;> cases ptr <;> rfl
    | false => exact plEntP ..
noncomputable def msH_ (ptr led : Bool) (mf mg mh : Mk) (o : Ov) : AObj := msE (entH ptr led mf mg mh o .f) (entH ptr led mf mg mh o .g) (entH ptr led mf mg mh o .h)
section
variable {C : Cfg} {nd : Nat}
theorem plNm (a b c : Op) : plO (.list (Op.nm n_f_ a ++ Op.nm n_g_ b ++ Op.nm n_h_ c)) = true := by
  obtain ⟨s1, b1, a1, n1, i1, h1⟩ := op_ex a
  obtain ⟨s2, b2, a2, n2, i2, h2⟩ := op_ex b
  obtain ⟨s3, b3, a3, n3, i3, h3⟩ := op_ex c
  exact mapX_eq (f := fun p : Op × Op × Op => plO (.list (Op.nm n_f_ p.1 ++ Op.nm n_g_ p.2.1 ++ Op.nm n_h_ p.2.2))) (g := fun _ => true) (l := prodL (opL s1 b1 a1 n1 i1) (prodL (opL s2 b2 a2 n2 i2) (opL s3 b3 a3 n3 i3))) (by kernel_rfl) (a, b, c) (prod_mem h1 (prod_mem h2 h3))
theorem plPm : ∀ {m : Mk} {b : Bool} {a : AV}, pm m = some (b, a) → plA a = true
  | none, _, _, e => by cases e
  | some (_, s), _, _, e => by cases e; cases s <;> rfl
theorem plOpH (led : Bool) (mf mg mh : Mk) (o : Ov) (x : Fg) (v : AV) (e : (opH (pm mf) (pm mg) (pm mh) (oaOf o) x).memq led = some v) : plA v = true := by
  have pr : ∀ (i : Int) (m : Mk) (v : AV), (match pm m with | none => Op.abs | some (b, a) => .prom i b a (keyOf n_m_N_ x.n)).memq led = some v → plA v = true := fun i m v e => by
    rcases m with _ | ⟨b, s⟩
    · cases e
    · cases s <;> cases e <;> rfl
  cases o with
  | no =>
    simp only [opH, oaOf, pmOf_sel] at e
    exact pr _ _ _ e
  | fld y t =>
    simp only [opH, oaOf, pmOf_sel] at e
    cases q : eqF x y with
    | true =>
      simp only [q] at e
      generalize sel mf mg mh x = m at e
      rcases m with _ | ⟨b, s⟩
      · cases e
      · cases t <;> cases e <;> rfl
    | false => simp only [q] at e; exact pr _ _ _ e
  | mth y b s =>
    simp only [opH, oaOf, pmOf_sel] at e
    cases q : eqF x y with
    | true => simp only [q] at e; cases s <;> cases e <;> rfl
    | false => simp only [q] at e; exact pr _ _ _ e
theorem ms_hol (S : Std C) {mf mg mh : Mk} {led : Bool} {o : Ov} (K : Tok C 61 (W0 (pm mf) (pm mg) (pm mh) led (oaOf o))) (ptr : Bool) (o' : Objs) : SC C 40 (C.gval 9) [.g 61, (match ptr with | true => ptrA holA | false => holA)] o' (.ref o'.length) (o' ++ [msH_ ptr led mf mg mh o]) := by
  have e : msH_ ptr led mf mg mh o = msD [(n_f_, (opH (pm mf) (pm mg) (pm mh) (oaOf o) .f).in ptr led), (n_g_, (opH (pm mf) (pm mg) (pm mh) (oaOf o) .g).in ptr led), (n_h_, (opH (pm mf) (pm mg) (pm mh) (oaOf o) .h).in ptr led)] := by
    rw [opH_in, opH_in, opH_in]; rfl
  have P : plO (msH_ ptr led mf mg mh o) = true := plMsE (plEntH ..) (plEntH ..) (plEntH ..)
  rw [e] at P ⊢
  have h6 : ∀ o', SC C 16 (C.gval 6) [.g 61, holA] o' (.ref o'.length) (o' ++ [.list (Op.nm n_f_ (opH (pm mf) (pm mg) (pm mh) (oaOf o) .f) ++ Op.nm n_g_ (opH (pm mf) (pm mg) (pm mh) (oaOf o) .g) ++ Op.nm n_h_ (opH (pm mf) (pm mg) (pm mh) (oaOf o) .h))]) := fun o' => tok_ob (nd := 0) S nob_ok K rfl (nmH _ _ _ _ _) (plNm _ _ _)
  cases ptr with
  | false =>
    have B : BaseOk C 16 (msB holA holA led (opH (pm mf) (pm mg) (pm mh) (oaOf o) .f) (opH (pm mf) (pm mg) (pm mh) (oaOf o) .g) (opH (pm mf) (pm mg) (pm mh) (oaOf o) .h)) := msB_ok S (fun o => tok_pl (nd := 0) S nob_ok K rfl (stH _ _ _ _ _) rfl) h6
      (fun v hv o => tok_pl (nd := 0) S nob_ok K rfl (fmH_f _ _ _ _ _ v hv) (plOpH _ _ _ _ _ .f v hv))
      (fun v hv o => tok_pl (nd := 0) S nob_ok K rfl (fmH_g _ _ _ _ _ v hv) (plOpH _ _ _ _ _ .g v hv))
      (fun v hv o => tok_pl (nd := 0) S nob_ok K rfl (fmH_h _ _ _ _ _ v hv) (plOpH _ _ _ _ _ .h v hv))
    exact (tok_ob S B tok_self rfl (msH led _ _ _) P).mono (by omega)
  | true =>
    have B : BaseOk C 16 (msB (ptrA holA) holA led (opH (pm mf) (pm mg) (pm mh) (oaOf o) .f) (opH (pm mf) (pm mg) (pm mh) (oaOf o) .g) (opH (pm mf) (pm mg) (pm mh) (oaOf o) .h)) := msB_ok S (fun o => tok_pl (nd := 0) S nob_ok K rfl (stQ _ _ _ _ _) rfl) h6
      (fun v hv o => tok_pl (nd := 0) S nob_ok K rfl (fmQ_f _ _ _ _ _ v hv) (plOpH _ _ _ _ _ .f v hv))
      (fun v hv o => tok_pl (nd := 0) S nob_ok K rfl (fmQ_g _ _ _ _ _ v hv) (plOpH _ _ _ _ _ .g v hv))
      (fun v hv o => tok_pl (nd := 0) S nob_ok K rfl (fmQ_h _ _ _ _ _ v hv) (plOpH _ _ _ _ _ .h v hv))
    exact (tok_ob S B tok_self rfl (msQ led _ _ _) P).mono (by omega)
theorem lack_ptr {W t : AV} (S : Std C) (K : Tok C 61 W) (K3 : Tok C 63 (ptrA t)) (ht : cvs 1000 tokT [t] = [t]) (x : Fg) (s : Bool) (h : ∀ n a, res (CALLR nob 8 10 [W, ptrA t, n, a] []) = some (.str n_missing_)) (o : Objs) : SC C 40 (C.gval 10) [.g 61, .g 63, .str x.n, psort s] o (.str n_missing_) o := by
  have e : cvs 1000 tokT [ptrA t, .str x.n, psort s] = [ptrA t, .str x.n, psort s] := by
    have h1 : cvA 1000 tokT t = t := List.cons.inj ht |>.1
    show [AV.tup [.str n_ptr_, cvA 1000 tokT t], .str x.n, cvA 1000 tokT (psort s)] = _
    rw [h1]
    cases s <;> rfl
  exact four_tok K3 ((tok_pl (nd := 0) S nob_ok K e (h _ _) rfl).mono (by omega))
theorem is_num (S : Std C) {mf mg mh : Mk} (K : Tok C 61 (WN (pm mf) (pm mg) (pm mh))) (K3 : Tok C 63 numA) : TypeIs C 80 (entN false .f mf) (entN false .g mg) (entN false .h mh) (fun x s => lackN (sel (entN true .f mf) (entN true .g mg) (entN true .h mh) x) s) where
  h9 := fun o => two_tok K3 ((ms_num S K false o).mono (by omega))
  h10 := fun x s o => lack_look (nd := 40) S K K3 (fun o => ms_num S K true o) (by kernel_rfl)
theorem is_numP (S : Std C) {mf mg mh : Mk} (K : Tok C 61 (WN (pm mf) (pm mg) (pm mh))) (K3 : Tok C 63 (ptrA numA)) : TypeIs C 80 (entN true .f mf) (entN true .g mg) (entN true .h mh) (fun _ _ => .miss) where
  h9 := fun o => two_tok K3 ((ms_num S K true o).mono (by omega))
  h10 := fun x s o => (lack_ptr S K K3 rfl x s (fun n a => by kernel_rfl) o).mono (by omega)
theorem is_hol (S : Std C) {mf mg mh : Mk} {led : Bool} {o : Ov} (K : Tok C 61 (W0 (pm mf) (pm mg) (pm mh) led (oaOf o))) (K3 : Tok C 63 holA) : TypeIs C 80 (entH false led mf mg mh o .f) (entH false led mf mg mh o .g) (entH false led mf mg mh o .h) (fun x s => lackN (sel (entH true led mf mg mh o .f) (entH true led mf mg mh o .g) (entH true led mf mg mh o .h) x) s) where
  h9 := fun o => two_tok K3 ((ms_hol S K false o).mono (by omega))
  h10 := fun x s o' => lack_look (nd := 40) S K K3 (fun o => ms_hol S K true o) (by
    cases o with
    | no => kernel_rfl
    | fld y t => cases t <;> kernel_rfl
    | mth y b s => kernel_rfl)
theorem is_holP (S : Std C) {mf mg mh : Mk} {led : Bool} {o : Ov} (K : Tok C 61 (W0 (pm mf) (pm mg) (pm mh) led (oaOf o))) (K3 : Tok C 63 (ptrA holA)) : TypeIs C 80 (entH true led mf mg mh o .f) (entH true led mf mg mh o .g) (entH true led mf mg mh o .h) (fun _ _ => .miss) where
  h9 := fun o => two_tok K3 ((ms_hol S K true o).mono (by omega))
  h10 := fun x s o => (lack_ptr S K K3 rfl x s (fun n a => by kernel_rfl) o).mono (by omega)
end
end
section
noncomputable def wantA (rows : List Row) : AV := .tup [.str n_interface_, .tup (rows.map askA)]
noncomputable def heldA : AV := wantA [(.f, false), (.g, true)]
noncomputable def vedA : AV := .tup [.str n_named_, .str n_m_V_]
noncomputable def wedA : AV := .tup [.str n_named_, .str n_m_W_]
noncomputable def boolA : AV := .tup [.str n_bool_]
noncomputable def sliceA : AV := .tup [.str n_slice_, numA]
noncomputable def structA : AV := .tup [.str n_struct_, .tup []]
noncomputable def WV : AV := WF (.fsub [n_m_V_] [rowA n_m_V_ heldA [] []])
noncomputable def WW (rows : List Row) : AV := WF (.fsub [n_m_W_] [rowA n_m_W_ (wantA rows) [] []])
noncomputable def faceE (s : Bool) : Ent := some (.tup [], .none, s)
section
variable {C : Cfg} {nd : Nat}
theorem is_gen {W T : AV} {ef eg eh : Ent} (S : Std C) (K : Tok C 61 W) (K3 : Tok C 63 T) (ht : cvs 1000 tokT [T] = [T]) (hp : plO (msE ef eg eh) = true) (h : resO (CALLR nob 8 9 [W, T] []) = some (msE ef eg eh)) (h2 : ∀ (n : Nm) (a : AV), res (CALLR nob 8 10 [W, T, .str n, a] []) = some (.str n_missing_)) : TypeIs C 80 ef eg eh (fun _ _ => .miss) where
  h9 := fun o => two_tok K3 ((tok_ob (nd := 0) S nob_ok K ht h hp).mono (by omega))
  h10 := fun x s o => by
    have e : cvs 1000 tokT [T, .str x.n, psort s] = [T, .str x.n, psort s] := by
      have h1 : cvA 1000 tokT T = T := List.cons.inj ht |>.1
      show [cvA 1000 tokT T, .str x.n, cvA 1000 tokT (psort s)] = _
      rw [h1]
      cases s <;> rfl
    exact four_tok K3 ((tok_pl (nd := 0) S nob_ok K e (h2 _ _) rfl).mono (by omega))
theorem is_held (S : Std C) (K : Tok C 61 (WF .top)) (K3 : Tok C 63 heldA) : TypeIs C 80 (faceE false) (faceE true) none (fun _ _ => .miss) :=
  is_gen S K K3 rfl rfl (by kernel_rfl) (fun n a => by kernel_rfl)
theorem is_ved (S : Std C) (K : Tok C 61 WV) (K3 : Tok C 63 vedA) : TypeIs C 80 (faceE false) (faceE true) none (fun _ _ => .miss) :=
  is_gen S K K3 rfl rfl (by kernel_rfl) (fun n a => by kernel_rfl)
theorem is_pved (S : Std C) (K : Tok C 61 WV) (K3 : Tok C 63 (ptrA vedA)) : TypeIs C 80 none none none (fun _ _ => .miss) :=
  is_gen S K K3 rfl rfl (by kernel_rfl) (fun n a => by kernel_rfl)
theorem is_bool (S : Std C) (K : Tok C 61 (WF .top)) (K3 : Tok C 63 boolA) : TypeIs C 80 none none none (fun _ _ => .miss) :=
  is_gen S K K3 rfl rfl (by kernel_rfl) (fun n a => by kernel_rfl)
theorem is_slice (S : Std C) (K : Tok C 61 (WF .top)) (K3 : Tok C 63 sliceA) : TypeIs C 80 none none none (fun _ _ => .miss) :=
  is_gen S K K3 rfl rfl (by kernel_rfl) (fun n a => by kernel_rfl)
theorem is_struct (S : Std C) (K : Tok C 61 (WF .top)) (K3 : Tok C 63 structA) : TypeIs C 80 none none none (fun _ _ => .miss) :=
  is_gen S K K3 rfl rfl (by kernel_rfl) (fun n a => by kernel_rfl)
noncomputable def WantIs (C : Cfg) (rows : List Row) : Prop := (Tok C 61 (WF .top) ∧ Tok C 62 (wantA rows)) ∨ (Tok C 61 (WW rows) ∧ Tok C 62 wedA)
theorem so_type {ef eg eh : Ent} {lk : Fg → Bool → Why} {rows : List Row} (S : Std C) (hT : TypeIs C 80 ef eg eh lk) (hW : WantIs C rows) (hr : rows.length < 100) : SCc C 200 (C.gval 23) [.g 61, .g 63, .g 62, vdA (firstV (vI ef eg eh lk) rows)] [] (.bool true) [] := by
  refine (so_ok (nd := 120) S fun o => ?_).mono (by omega)
  rcases hW with ⟨K, K2⟩ | ⟨K, K2⟩
  · exact impl_ok S K K2 hT.h9 hT.h10 (fun ob => by kernel_rfl) hr o
  · exact impl_ok S K K2 hT.h9 hT.h10 (fun ob => by kernel_rfl) hr o
end
end
section
noncomputable def dsub (ks : List Nm) (xs : List AV) : List Nm → List AV → Prop
  | [], rows => rows = []
  | k :: s, rows => ∃ r t, rows = r :: t ∧ dget ks xs k = some r ∧ dsub ks xs s t
section
variable {C : Cfg} {X γ : List Addr} {led : Led}
theorem dget_val {ks : List Nm} : ∀ {xs : List AV} {vs : List Value} {k : Nm} {r : AV}, VRs C X γ led xs vs → dget ks xs k = some r → ∃ v, dgetV ks vs k = some v ∧ VR C X γ led r v := by
  induction ks with
  | nil => intro xs vs k r _ e; cases xs <;> cases e
  | cons y ks ih =>
    intro xs vs k r h e
    cases xs with
    | nil => cases e
    | cons x xs =>
      simp only [VRs] at h
      obtain ⟨v, vs', rfl, h1, h2⟩ := h
      have e : (match eqN y k with | true => some x | false => dget ks xs k) = some r := e
      show ∃ w, (match decide (y = k) with | true => some v | false => dgetV ks vs' k) = some w ∧ _
      cases q : eqN y k with
      | true =>
        rw [q] at e
        cases e
        rw [eqN_iff] at q
        simp only [q, decide_true]
        exact ⟨v, rfl, h1⟩
      | false =>
        rw [q] at e
        rw [eqN_false] at q
        simp only [q, decide_false]
        exact ih h2 e
theorem sub_vals {ks : List Nm} {xs : List AV} {vs : List Value} (h : VRs C X γ led xs vs) : ∀ {sub : List Nm} {rows : List AV}, dsub ks xs sub rows → ∃ us, us.length = sub.length ∧ (∀ k u, dgetV sub us k = some u → dgetV ks vs k = some u) ∧ VRs C X γ led rows us
  | [], rows, d => by
    have d : rows = [] := d
    subst d
    exact ⟨[], rfl, (fun k u e => by cases e), (by simp only [VRs])⟩
  | k :: s, rows, d => by
    obtain ⟨r, t, rfl, h1, h2⟩ := d
    obtain ⟨v, e1, e2⟩ := dget_val h h1
    obtain ⟨us, l, p, q⟩ := sub_vals h h2
    refine ⟨v :: us, by simp [l], fun j u e => ?_, by simp only [VRs]; exact ⟨v, us, rfl, e2, q⟩⟩
    have e : (match decide (k = j) with | true => some v | false => dgetV s us j) = some u := e
    cases z : decide (k = j) with
    | true => rw [z] at e; cases e; rw [← of_decide_eq_true z]; exact e1
    | false => rw [z] at e; exact p j u e
variable {nd : Nat} {o : Objs}
theorem WF_cv {tok : Nat → AV} {n : Nat} : cvA 61 tok (WF (.ref n)) = WF (tok n) := rfl
theorem isso (S : Std C) {n : Nat} {ks : List Nm} {xs : List AV} {ep : Option Nat} (hn : o[n]? = some (.dict ks xs ep)) {T wA : AV} {r : Vd} (hT : cvs 61 tokT [T] = [T]) (hwA : cvs 61 tokT [wA] = [wA])
    (H : ∀ C' : Cfg, Std C' → (∀ sub rows, dsub ks xs sub rows → cvs 61 tokT rows = rows → Tok C' 61 (WF (.fsub sub rows))) → Tok C' 61 (WF .top) → Tok C' 63 T → Tok C' 62 wA → SCc C' 200 (C'.gval 23) [.g 61, .g 63, .g 62, vdA r] [] (.bool true) []) :
    SC C 200 (C.gval 23) [WF (.ref n), T, wA, vdA r] o (.bool true) o := by
  refine snap_call (args' := fun _ _ => []) S fun X γ led h vs Hh hz R hv => ?_
  simp only [VRs] at hv
  obtain ⟨vw, _, rfl, h1, vT, _, rfl, h2, vW, _, rfl, h3, vd, _, rfl, h4, rfl⟩ := hv
  have S' := snap_std S Hh hz vw vW vT
  have hs : ∀ (X2 γ2 : List Addr) (led2 : Led) (a : Addr) (ob : Obj), Stb C X γ led a ob → Stb (snapC C h led vw vW vT) X2 γ2 led2 a ob := fun X2 γ2 led2 a ob q => .inl (snap_S S.ok Hh (q.elim .inl fun z => .inr z.1))
  have cl : ∀ (X2 γ2 : List Addr) (led2 : Led) (a : AV) (v : Value), cvs 61 tokT [a] = [a] → VR C X γ led a v → VR (snapC C h led vw vW vT) X2 γ2 led2 a v := fun X2 γ2 led2 a v e q => by
    have := VR.cv (C := C) (X := X) (γ := γ) (led := led) (C' := snapC C h led vw vW vT) (X' := X2) (γ' := γ2) (led' := led2) (gb := 61) (tok := tokT) rfl rfl (fun i hi => snap_gv h led vw vW vT i hi) (hs X2 γ2 led2) (fun i a _ => by show VR _ _ _ _ .top _; simp only [VR]) a v q
    have e2 : cvA 61 tokT a = a := (List.cons.inj e).1
    rw [e2] at this
    exact this
  have wt : ∀ (tok : Nat → AV), (∀ X2 γ2 led2 i a, γ[i]? = some a → VR (snapC C h led vw vW vT) X2 γ2 led2 (tok i) (.ref a)) → Tok (snapC C h led vw vW vT) 61 (WF (tok n)) := fun tok ht X2 γ2 led2 => by
    have := VR.cv (C := C) (X := X) (γ := γ) (led := led) (C' := snapC C h led vw vW vT) (X' := X2) (γ' := γ2) (led' := led2) (gb := 61) (tok := tok) rfl rfl (fun i hi => snap_gv h led vw vW vT i hi) (hs X2 γ2 led2) (ht X2 γ2 led2) _ _ h1
    rw [WF_cv] at this
    exact this
  refine ⟨vw, vW, vT, [.g 61, .g 63, .g 62, vdA r], [], ?_, ?_⟩
  · simp only [VRs, VR]
    refine ⟨vw, _, rfl, rfl, vT, _, rfl, rfl, vW, _, rfl, rfl, vd, _, rfl, cl _ _ _ _ _ ?_ h4, rfl⟩
    rcases r with _ | ⟨x, y⟩ <;> rfl
  · have q := H (snapC C h led vw vW vT) S' (fun sub rows hd hc => ?_) ?_ ?_ ?_
    · rw [show (snapC C h led vw vW vT).gval 23 = C.gval 23 from snap_gv h led vw vW vT 23 (by decide)] at q
      exact q
    · have := wt (fun i => bif Nat.beq i n then .fsub sub rows else .top) (fun X2 γ2 led2 i a e => ?_)
      · simp only [Nat.beq_refl, cond_true] at this
        exact this
      · cases z : Nat.beq i n with
        | false => simp only [cond_false, VR]
        | true =>
          have := Nat.eq_of_beq_eq_true z
          subst this
          obtain ⟨es, m, vs, q1, _, q2, q3, q4⟩ := R.has _ _ _ hn e
          obtain ⟨us, l1, l2, l3⟩ := sub_vals q4 hd
          simp only [cond_true, VR]
          refine ⟨a, es, m, ks, vs, us, rfl, .inl (snap_S S.ok Hh (.inr q1)), q2, q3, ⟨l1, l2⟩, ?_⟩
          · have := VRs.cv (C := C) (X := X) (γ := γ) (led := led) (C' := snapC C h led vw vW vT) (X' := X2) (γ' := γ2) (led' := led2) (gb := 61) (tok := tokT) rfl rfl (fun i hi => snap_gv h led vw vW vT i hi) (hs X2 γ2 led2) (fun i a _ => by show VR _ _ _ _ .top _; simp only [VR]) _ _ l3
            rw [hc] at this
            exact this
    · have := wt (fun _ => .top) (fun X2 γ2 led2 i a e => by simp only [VR])
      exact this
    · exact fun X2 γ2 led2 => cl _ _ _ _ _ hT h2
    · exact fun X2 γ2 led2 => cl _ _ _ _ _ hwA h3
end
end
section
inductive Wd where
  | hol
  | holP
  | num
  | numP
noncomputable def Wd.n : Wd → Nm
  | .hol => n_holder_
  | .holP => n_holder_pointer_
  | .num => n_number_
  | .numP => n_number_pointer_
noncomputable def Wd.T : Wd → AV
  | .hol => holA
  | .holP => ptrA holA
  | .num => numA
  | .numP => ptrA numA
noncomputable def Wd.ptr : Wd → Bool
  | .hol => false
  | .holP => true
  | .num => false
  | .numP => true
noncomputable def Wd.isH : Wd → Bool
  | .hol => true
  | .holP => true
  | .num => false
  | .numP => false
noncomputable abbrev Seen := Option (Bool × Bool)
noncomputable def seenOf (free : Bool) : Mk → Seen
  | none => none
  | some (b, s) => some (s, b.and free.not)
noncomputable def seen (wd : Wd) (mf mg mh : Mk) (o : Ov) (led : Bool) (x : Fg) : Seen := match wd.isH with
  | false => seenOf wd.ptr (sel mf mg mh x)
  | true => match o with
    | .no => seenOf (wd.ptr.or led) (sel mf mg mh x)
    | .fld y _ => match eqF y x with
      | true => none
      | false => seenOf (wd.ptr.or led) (sel mf mg mh x)
    | .mth y b s => match eqF y x with
      | true => seenOf wd.ptr (some (b, s))
      | false => seenOf (wd.ptr.or led) (sel mf mg mh x)
noncomputable def vD (sn : Fg → Seen) (r : Row) : Vd := match sn r.1 with
  | none => some (r.1, .miss)
  | some (t, b) => match eqB t r.2, b with
    | false, true => some (r.1, .miss)
    | true, true => some (r.1, .ptr)
    | false, false => some (r.1, .oth)
    | true, false => none
theorem firstV_congr {α : Type} {u v : α → Vd} (h : ∀ r, u r = v r) : ∀ rows, firstV u rows = firstV v rows
  | [] => rfl
  | r :: t => by
    unfold firstV
    rw [h r, firstV_congr h t]
theorem num_same (mf mg mh : Mk) (o : Ov) (led : Bool) (r : Row) : vI (entN false .f mf) (entN false .g mg) (entN false .h mh) (fun x s => lackN (sel (entN true .f mf) (entN true .g mg) (entN true .h mh) x) s) r = vD (seen .num mf mg mh o led) r := by
  rcases r with ⟨x, s⟩
  cases x with
  | f => exact mapX_eq (f := fun p : Mk × Bool => vI (entN false .f p.1) (entN false .g mg) (entN false .h mh) (fun x s => lackN (sel (entN true .f p.1) (entN true .g mg) (entN true .h mh) x) s) (.f, p.2)) (g := fun p => vD (seen .num p.1 mg mh o led) (.f, p.2)) (l := prodL mkL boolL) (by kernel_rfl) (mf, s) (prod_mem (mk_mem mf) (bool_mem s))
  | g => exact mapX_eq (f := fun p : Mk × Bool => vI (entN false .f mf) (entN false .g p.1) (entN false .h mh) (fun x s => lackN (sel (entN true .f mf) (entN true .g p.1) (entN true .h mh) x) s) (.g, p.2)) (g := fun p => vD (seen .num mf p.1 mh o led) (.g, p.2)) (l := prodL mkL boolL) (by kernel_rfl) (mg, s) (prod_mem (mk_mem mg) (bool_mem s))
  | h => exact mapX_eq (f := fun p : Mk × Bool => vI (entN false .f mf) (entN false .g mg) (entN false .h p.1) (fun x s => lackN (sel (entN true .f mf) (entN true .g mg) (entN true .h p.1) x) s) (.h, p.2)) (g := fun p => vD (seen .num mf mg p.1 o led) (.h, p.2)) (l := prodL mkL boolL) (by kernel_rfl) (mh, s) (prod_mem (mk_mem mh) (bool_mem s))
theorem numP_same (mf mg mh : Mk) (o : Ov) (led : Bool) (r : Row) : vI (entN true .f mf) (entN true .g mg) (entN true .h mh) (fun _ _ => .miss) r = vD (seen .numP mf mg mh o led) r := by
  rcases r with ⟨x, s⟩
  cases x with
  | f => exact mapX_eq (f := fun p : Mk × Bool => vI (entN true .f p.1) (entN true .g mg) (entN true .h mh) (fun _ _ => .miss) (.f, p.2)) (g := fun p => vD (seen .numP p.1 mg mh o led) (.f, p.2)) (l := prodL mkL boolL) (by kernel_rfl) (mf, s) (prod_mem (mk_mem mf) (bool_mem s))
  | g => exact mapX_eq (f := fun p : Mk × Bool => vI (entN true .f mf) (entN true .g p.1) (entN true .h mh) (fun _ _ => .miss) (.g, p.2)) (g := fun p => vD (seen .numP mf p.1 mh o led) (.g, p.2)) (l := prodL mkL boolL) (by kernel_rfl) (mg, s) (prod_mem (mk_mem mg) (bool_mem s))
  | h => exact mapX_eq (f := fun p : Mk × Bool => vI (entN true .f mf) (entN true .g mg) (entN true .h p.1) (fun _ _ => .miss) (.h, p.2)) (g := fun p => vD (seen .numP mf mg p.1 o led) (.h, p.2)) (l := prodL mkL boolL) (by kernel_rfl) (mh, s) (prod_mem (mk_mem mh) (bool_mem s))
theorem hol_same (mf mg mh : Mk) (o : Ov) (led : Bool) (r : Row) : vI (entH false led mf mg mh o .f) (entH false led mf mg mh o .g) (entH false led mf mg mh o .h) (fun x s => lackN (sel (entH true led mf mg mh o .f) (entH true led mf mg mh o .g) (entH true led mf mg mh o .h) x) s) r = vD (seen .hol mf mg mh o led) r := by
  rcases r with ⟨x, s⟩
  cases x with
  | f => exact mapX_eq (f := fun p : Mk × Ov × Bool × Bool => vI (entH false p.2.2.1 p.1 mg mh p.2.1 .f) (entH false p.2.2.1 p.1 mg mh p.2.1 .g) (entH false p.2.2.1 p.1 mg mh p.2.1 .h) (fun x s => lackN (sel (entH true p.2.2.1 p.1 mg mh p.2.1 .f) (entH true p.2.2.1 p.1 mg mh p.2.1 .g) (entH true p.2.2.1 p.1 mg mh p.2.1 .h) x) s) (.f, p.2.2.2)) (g := fun p => vD (seen .hol p.1 mg mh p.2.1 p.2.2.1) (.f, p.2.2.2)) (l := prodL mkL (prodL ovL (prodL boolL boolL))) (by kernel_rfl) (mf, o, led, s) (prod_mem (mk_mem mf) (prod_mem (ov_mem o) (prod_mem (bool_mem led) (bool_mem s))))
  | g => exact mapX_eq (f := fun p : Mk × Ov × Bool × Bool => vI (entH false p.2.2.1 mf p.1 mh p.2.1 .f) (entH false p.2.2.1 mf p.1 mh p.2.1 .g) (entH false p.2.2.1 mf p.1 mh p.2.1 .h) (fun x s => lackN (sel (entH true p.2.2.1 mf p.1 mh p.2.1 .f) (entH true p.2.2.1 mf p.1 mh p.2.1 .g) (entH true p.2.2.1 mf p.1 mh p.2.1 .h) x) s) (.g, p.2.2.2)) (g := fun p => vD (seen .hol mf p.1 mh p.2.1 p.2.2.1) (.g, p.2.2.2)) (l := prodL mkL (prodL ovL (prodL boolL boolL))) (by kernel_rfl) (mg, o, led, s) (prod_mem (mk_mem mg) (prod_mem (ov_mem o) (prod_mem (bool_mem led) (bool_mem s))))
  | h => exact mapX_eq (f := fun p : Mk × Ov × Bool × Bool => vI (entH false p.2.2.1 mf mg p.1 p.2.1 .f) (entH false p.2.2.1 mf mg p.1 p.2.1 .g) (entH false p.2.2.1 mf mg p.1 p.2.1 .h) (fun x s => lackN (sel (entH true p.2.2.1 mf mg p.1 p.2.1 .f) (entH true p.2.2.1 mf mg p.1 p.2.1 .g) (entH true p.2.2.1 mf mg p.1 p.2.1 .h) x) s) (.h, p.2.2.2)) (g := fun p => vD (seen .hol mf mg p.1 p.2.1 p.2.2.1) (.h, p.2.2.2)) (l := prodL mkL (prodL ovL (prodL boolL boolL))) (by kernel_rfl) (mh, o, led, s) (prod_mem (mk_mem mh) (prod_mem (ov_mem o) (prod_mem (bool_mem led) (bool_mem s))))
theorem holP_same (mf mg mh : Mk) (o : Ov) (led : Bool) (r : Row) : vI (entH true led mf mg mh o .f) (entH true led mf mg mh o .g) (entH true led mf mg mh o .h) (fun _ _ => .miss) r = vD (seen .holP mf mg mh o led) r := by
  rcases r with ⟨x, s⟩
  cases x with
  | f => exact mapX_eq (f := fun p : Mk × Ov × Bool × Bool => vI (entH true p.2.2.1 p.1 mg mh p.2.1 .f) (entH true p.2.2.1 p.1 mg mh p.2.1 .g) (entH true p.2.2.1 p.1 mg mh p.2.1 .h) (fun _ _ => .miss) (.f, p.2.2.2)) (g := fun p => vD (seen .holP p.1 mg mh p.2.1 p.2.2.1) (.f, p.2.2.2)) (l := prodL mkL (prodL ovL (prodL boolL boolL))) (by kernel_rfl) (mf, o, led, s) (prod_mem (mk_mem mf) (prod_mem (ov_mem o) (prod_mem (bool_mem led) (bool_mem s))))
  | g => exact mapX_eq (f := fun p : Mk × Ov × Bool × Bool => vI (entH true p.2.2.1 mf p.1 mh p.2.1 .f) (entH true p.2.2.1 mf p.1 mh p.2.1 .g) (entH true p.2.2.1 mf p.1 mh p.2.1 .h) (fun _ _ => .miss) (.g, p.2.2.2)) (g := fun p => vD (seen .holP mf p.1 mh p.2.1 p.2.2.1) (.g, p.2.2.2)) (l := prodL mkL (prodL ovL (prodL boolL boolL))) (by kernel_rfl) (mg, o, led, s) (prod_mem (mk_mem mg) (prod_mem (ov_mem o) (prod_mem (bool_mem led) (bool_mem s))))
  | h => exact mapX_eq (f := fun p : Mk × Ov × Bool × Bool => vI (entH true p.2.2.1 mf mg p.1 p.2.1 .f) (entH true p.2.2.1 mf mg p.1 p.2.1 .g) (entH true p.2.2.1 mf mg p.1 p.2.1 .h) (fun _ _ => .miss) (.h, p.2.2.2)) (g := fun p => vD (seen .holP mf mg p.1 p.2.1 p.2.2.1) (.h, p.2.2.2)) (l := prodL mkL (prodL ovL (prodL boolL boolL))) (by kernel_rfl) (mh, o, led, s) (prod_mem (mk_mem mh) (prod_mem (ov_mem o) (prod_mem (bool_mem led) (bool_mem s))))
noncomputable def heldS (x : Fg) : Seen := sel (some (false, false)) (some (true, false)) none x
theorem held_same (r : Row) : vI (faceE false) (faceE true) none (fun _ _ => .miss) r = vD heldS r := by
  rcases r with ⟨x, s⟩
  cases x <;> cases s <;> rfl
noncomputable def vNo (r : Row) : Vd := some (r.1, .miss)
theorem none_same (r : Row) : vI none none none (fun _ _ => .miss) r = vNo r := by
  rcases r with ⟨x, s⟩
  cases x <;> rfl
theorem ask_cv (r : Row) : cvA 61 tokT (askA r) = askA r := by
  rcases r with ⟨x, s⟩
  cases s <;> rfl
theorem asks_cv : ∀ rows : List Row, cvs 61 tokT (rows.map askA) = rows.map askA
  | [] => rfl
  | r :: t => by
    show cvA 61 tokT (askA r) :: cvs 61 tokT (t.map askA) = _
    rw [ask_cv, asks_cv t]
    rfl
theorem want_cv (rows : List Row) : cvA 61 tokT (wantA rows) = wantA rows := by
  show AV.tup [.str n_interface_, .tup (cvs 61 tokT (rows.map askA))] = _
  rw [asks_cv]
  rfl
theorem rowN_cv (mf mg mh : Mk) : cvA 61 tokT (rowN (pm mf) (pm mg) (pm mh)) = rowN (pm mf) (pm mg) (pm mh) := by
  exact mapX_eq (f := fun p : Mk × Mk × Mk => cvA 61 tokT (rowN (pm p.1) (pm p.2.1) (pm p.2.2))) (g := fun p => rowN (pm p.1) (pm p.2.1) (pm p.2.2)) (l := prodL mkL (prodL mkL mkL)) (by kernel_rfl) (mf, mg, mh) (prod_mem (mk_mem mf) (prod_mem (mk_mem mg) (mk_mem mh)))
theorem rowH_cv (led : Bool) (o : Ov) : cvA 61 tokT (rowH led (oaOf o)) = rowH led (oaOf o) := by
  exact mapX_eq (f := fun p : Bool × Ov => cvA 61 tokT (rowH p.1 (oaOf p.2))) (g := fun p => rowH p.1 (oaOf p.2)) (l := prodL boolL ovL) (by kernel_rfl) (led, o) (prod_mem (bool_mem led) (ov_mem o))
structure World1 (ks : List Nm) (xs : List AV) (mf mg mh : Mk) (led : Bool) (o : Ov) : Prop where
  n : dget ks xs n_m_N_ = some (rowN (pm mf) (pm mg) (pm mh))
  h : dget ks xs n_m_H_ = some (rowH led (oaOf o))
noncomputable def WantK (ks : List Nm) (xs : List AV) (rows : List Row) (wA : AV) : Prop := wA = wantA rows ∨ (wA = wedA ∧ dget ks xs n_m_W_ = some (rowA n_m_W_ (wantA rows) [] []))
section
variable {C : Cfg} {o : Objs} {n : Nat} {ks : List Nm} {xs : List AV} {ep : Option Nat} {rows : List Row} {wA : AV}
theorem WantK.cv (h : WantK ks xs rows wA) : cvs 61 tokT [wA] = [wA] := by
  rcases h with rfl | ⟨rfl, _⟩
  · show [cvA 61 tokT (wantA rows)] = _
    rw [want_cv]
  · rfl
theorem rowA_cv {nm : Nm} {u : AV} (h : cvA 61 tokT u = u) : cvA 61 tokT (rowA nm u [] []) = rowA nm u [] [] := by
  show AV.finst 32 rkeys [.str nm, .str n_m_, cvA 61 tokT u, .fdict [] []] = _
  rw [h]
  rfl
theorem WantK.is {C' : Cfg} (h : WantK ks xs rows wA) (h1 : ∀ sub rows, dsub ks xs sub rows → cvs 61 tokT rows = rows → Tok C' 61 (WF (.fsub sub rows))) (h2 : Tok C' 61 (WF .top)) (h3 : Tok C' 62 wA) : WantIs C' rows := by
  rcases h with rfl | ⟨rfl, h⟩
  · exact .inl ⟨h2, h3⟩
  · refine .inr ⟨h1 [n_m_W_] [rowA n_m_W_ (wantA rows) [] []] ⟨_, _, rfl, h, rfl⟩ ?_, h3⟩
    show [cvA 61 tokT (rowA n_m_W_ (wantA rows) [] [])] = _
    rw [rowA_cv (want_cv rows)]
theorem so_wd (S : Std C) (hn : o[n]? = some (.dict ks xs ep)) {mf mg mh : Mk} {led : Bool} {ov : Ov} (hw : World1 ks xs mf mg mh led ov) (hW : WantK ks xs rows wA) (hr : rows.length < 100) (wd : Wd) :
    SC C 200 (C.gval 23) [WF (.ref n), wd.T, wA, vdA (firstV (vD (seen wd mf mg mh ov led)) rows)] o (.bool true) o := by
  refine isso S hn (by cases wd <;> rfl) hW.cv fun C' S' h1 h2 h3 h4 => ?_
  have hI := hW.is h1 h2 h4
  have KN : Tok C' 61 (WN (pm mf) (pm mg) (pm mh)) := h1 [n_m_N_] [rowN (pm mf) (pm mg) (pm mh)] ⟨_, _, rfl, hw.n, rfl⟩ (by show [cvA 61 tokT (rowN _ _ _)] = _; rw [rowN_cv])
  have KH : Tok C' 61 (W0 (pm mf) (pm mg) (pm mh) led (oaOf ov)) := h1 [n_m_N_, n_m_H_] [rowN (pm mf) (pm mg) (pm mh), rowH led (oaOf ov)] ⟨_, _, rfl, hw.n, _, _, rfl, hw.h, rfl⟩ (by show [cvA 61 tokT (rowN _ _ _), cvA 61 tokT (rowH _ _)] = _; rw [rowN_cv, rowH_cv])
  cases wd with
  | num => rw [← firstV_congr (num_same mf mg mh ov led)]; exact so_type S' (is_num S' KN h3) hI hr
  | numP => rw [← firstV_congr (numP_same mf mg mh ov led)]; exact so_type S' (is_numP S' KN h3) hI hr
  | hol => rw [← firstV_congr (hol_same mf mg mh ov led)]; exact so_type S' (is_hol S' KH h3) hI hr
  | holP => rw [← firstV_congr (holP_same mf mg mh ov led)]; exact so_type S' (is_holP S' KH h3) hI hr
theorem so_held (S : Std C) (hn : o[n]? = some (.dict ks xs ep)) (hW : WantK ks xs rows wA) (hr : rows.length < 100) : SC C 200 (C.gval 23) [WF (.ref n), heldA, wA, vdA (firstV (vD heldS) rows)] o (.bool true) o := by
  refine isso S hn rfl hW.cv fun C' S' h1 h2 h3 h4 => ?_
  rw [← firstV_congr held_same]
  exact so_type S' (is_held S' h2 h3) (hW.is h1 h2 h4) hr
theorem so_ved (S : Std C) (hn : o[n]? = some (.dict ks xs ep)) (hV : dget ks xs n_m_V_ = some (rowA n_m_V_ heldA [] [])) (hW : WantK ks xs rows wA) (hr : rows.length < 100) : SC C 200 (C.gval 23) [WF (.ref n), vedA, wA, vdA (firstV (vD heldS) rows)] o (.bool true) o := by
  refine isso S hn rfl hW.cv fun C' S' h1 h2 h3 h4 => ?_
  rw [← firstV_congr held_same]
  exact so_type S' (is_ved S' (h1 [n_m_V_] [rowA n_m_V_ heldA [] []] ⟨_, _, rfl, hV, rfl⟩ rfl) h3) (hW.is h1 h2 h4) hr
theorem so_pved (S : Std C) (hn : o[n]? = some (.dict ks xs ep)) (hV : dget ks xs n_m_V_ = some (rowA n_m_V_ heldA [] [])) (hW : WantK ks xs rows wA) (hr : rows.length < 100) : SC C 200 (C.gval 23) [WF (.ref n), ptrA vedA, wA, vdA (firstV vNo rows)] o (.bool true) o := by
  refine isso S hn rfl hW.cv fun C' S' h1 h2 h3 h4 => ?_
  rw [← firstV_congr none_same]
  exact so_type S' (is_pved S' (h1 [n_m_V_] [rowA n_m_V_ heldA [] []] ⟨_, _, rfl, hV, rfl⟩ rfl) h3) (hW.is h1 h2 h4) hr
theorem so_bool (S : Std C) (hn : o[n]? = some (.dict ks xs ep)) (hW : WantK ks xs rows wA) (hr : rows.length < 100) : SC C 200 (C.gval 23) [WF (.ref n), boolA, wA, vdA (firstV vNo rows)] o (.bool true) o := by
  refine isso S hn rfl hW.cv fun C' S' h1 h2 h3 h4 => ?_
  rw [← firstV_congr none_same]
  exact so_type S' (is_bool S' h2 h3) (hW.is h1 h2 h4) hr
theorem so_slice (S : Std C) (hn : o[n]? = some (.dict ks xs ep)) (hW : WantK ks xs rows wA) (hr : rows.length < 100) : SC C 200 (C.gval 23) [WF (.ref n), sliceA, wA, vdA (firstV vNo rows)] o (.bool true) o := by
  refine isso S hn rfl hW.cv fun C' S' h1 h2 h3 h4 => ?_
  rw [← firstV_congr none_same]
  exact so_type S' (is_slice S' h2 h3) (hW.is h1 h2 h4) hr
theorem so_struct (S : Std C) (hn : o[n]? = some (.dict ks xs ep)) (hW : WantK ks xs rows wA) (hr : rows.length < 100) : SC C 200 (C.gval 23) [WF (.ref n), structA, wA, vdA (firstV vNo rows)] o (.bool true) o := by
  refine isso S hn rfl hW.cv fun C' S' h1 h2 h3 h4 => ?_
  rw [← firstV_congr none_same]
  exact so_type S' (is_struct S' h2 h3) (hW.is h1 h2 h4) hr
end
end
section
section
variable {O : Orc} {l l1 : Loc} {o o1 o2 o3 : Objs} {r u v : AV}
theorem ev_c {k : AV} : (ev O (.c k)).1 l o = some (k, o) := rfl
theorem ev_lv {x : Nm} (h : lk l x = some v) : (ev O (.lv x)).1 l o = some (v, o) :=
  show oaM (lk l x) (fun v => some (v, o)) = _ from oa_eq h rfl
theorem ev_bin {op : Operator} {a b : ME} (h1 : (ev O a).1 l o = some (u, o1)) (h2 : (ev O b).1 l o1 = some (v, o2)) (h3 : binA op u v = some r) : (ev O (.bin op a b)).1 l o = some (r, o2) :=
  show obM ((ev O a).1 l o) (fun u o => obM ((ev O b).1 l o) fun v o => oaM (binA op u v) fun r => some (r, o)) = _ from ob_eq h1 (ob_eq h2 (oa_eq h3 rfl))
theorem ev_call {f : ME} {as : MEs} {i : Nat} {vs : List AV} (h1 : (ev O f).1 l o = some (.g i, o1)) (h2 : evs O as l o1 = some (vs, o2)) (h3 : O.call i vs o2 = some (r, o3)) : (ev O (.call f as)).1 l o = some (r, o3) :=
  show obM ((ev O f).1 l o) (fun v o => oaM (jG v) fun i => obM (evs O as l o) fun vs o => O.call i vs o) = _ from ob_eq h1 (oa_eq rfl (ob_eq h2 h3))
theorem evs_nil : evs O .nil l o = some ([], o) := rfl
theorem evs_cons {e : ME} {es : MEs} {vs : List AV} (h1 : (ev O e).1 l o = some (v, o1)) (h2 : evs O es l o1 = some (vs, o2)) : evs O (.cons e es) l o = some (v :: vs, o2) :=
  show obM ((ev O e).1 l o) (fun v o => obM (evs O es l o) fun vs o => some (v :: vs, o)) = _ from ob_eq h1 (ob_eq h2 rfl)
theorem ev_sub {e i : ME} (h1 : (ev O e).1 l o = some (u, o1)) (h2 : (ev O i).1 l o1 = some (v, o2)) (h3 : subA o2 u v = some r) : (ev O (.sub e i)).1 l o = some (r, o2) :=
  show obM ((ev O e).1 l o) (fun v o => obM ((ev O i).1 l o) fun j o => oaM (subA o v j) fun r => some (r, o)) = _ from ob_eq h1 (ob_eq h2 (oa_eq h3 rfl))
theorem ev_tup {es : MEs} {vs : List AV} (h : evs O es l o = some (vs, o1)) : (ev O (.tup es)).1 l o = some (.tup vs, o1) :=
  show obM (evs O es l o) (fun vs o => some (AV.tup vs, o)) = _ from ob_eq h rfl
theorem ev_lst {es : MEs} {vs : List AV} (h : evs O es l o = some (vs, o1)) : (ev O (.lst es)).1 l o = some (.ref o1.length, o1 ++ [.list vs]) :=
  show obM (evs O es l o) (fun vs o => some (AV.ref o.length, o ++ [AObj.list vs])) = _ from ob_eq h rfl
theorem ev_cmp {op : CmpOp} {a b : ME} {c : Bool} (h1 : (ev O a).1 l o = some (u, o1)) (h2 : (ev O b).1 l o1 = some (v, o2)) (h3 : cmpA o2 op u v = some c) : (ev O (.cmp op a b)).1 l o = some (.bool c, o2) ∧ (ev O (.cmp op a b)).2 l o = some (c, o2) := by
  have : (ev O (.cmp op a b)).2 l o = some (c, o2) :=
    show obM ((ev O a).1 l o) (fun u o => obM ((ev O b).1 l o) fun v o => oaM (cmpA o op u v) fun r => some (r, o)) = _ from ob_eq h1 (ob_eq h2 (oa_eq h3 rfl))
  exact ⟨show obM ((ev O (.cmp op a b)).2 l o) (fun b o => some (AV.bool b, o)) = _ from ob_eq this rfl, this⟩
theorem ev_ife {t a b : ME} {c : Bool} (h1 : (ev O t).2 l o = some (c, o1)) (h2 : (ev O (match c with | true => a | false => b)).1 l o1 = some (r, o2)) : (ev O (.ife t a b)).1 l o = some (r, o2) :=
  show obM ((ev O t).2 l o) (fun c o => omM c ((ev O a).1 l o) ((ev O b).1 l o)) = _ from ob_eq h1 (by cases c <;> exact h2)
theorem ev_not {e : ME} {c : Bool} (h : (ev O e).2 l o = some (c, o1)) : (ev O (.not e)).2 l o = some (!c, o1) :=
  show obM ((ev O e).2 l o) (fun b o => some (!b, o)) = _ from ob_eq h rfl
theorem ev_truth {f : ME} {as : MEs} {c : Bool} (h : (ev O (.call f as)).1 l o = some (.bool c, o1)) : (ev O (.call f as)).2 l o = some (c, o1) :=
  show obM ((ev O (.call f as)).1 l o) (fun v o => oaM (truthyA v) fun b => some (b, o)) = _ from ob_eq h rfl
theorem exS_asg {x : Nm} {e : ME} (h : (ev O e).1 l o = some (v, o1)) : exS O (.asg x e) l o = some (.next, stv l x v, o1) :=
  show obM ((ev O e).1 l o) (fun v o => some (FL.next, stv l x v, o)) = _ from ob_eq h rfl
theorem exS_asgT {xs : List Nm} {e : ME} {vs : List AV} (h : (ev O e).1 l o = some (.tup vs, o1)) (hb : bindGo xs vs l = some l1) : exS O (.asgT xs e) l o = some (.next, l1, o1) :=
  show obM ((ev O e).1 l o) (fun v o => oaM (jTup v) fun vs => oaM (bindGo xs vs l) fun l => some (FL.next, l, o)) = _ from ob_eq h (oa_eq rfl (oa_eq hb rfl))
theorem exS_ret {e : ME} (h : (ev O e).1 l o = some (v, o1)) : exS O (.ret e) l o = some (.ret v, l, o1) :=
  show obM ((ev O e).1 l o) (fun v o => some (FL.ret v, l, o)) = _ from ob_eq h rfl
theorem exSs_cons {m : MS} {ms : MSs} {fl : FL} {l2 : Loc} (h1 : exS O m l o = some (.next, l1, o1)) (h2 : exSs O ms l1 o1 = some (fl, l2, o2)) : exSs O (.cons m ms) l o = some (fl, l2, o2) :=
  show oxM (exS O m l o) (fun l o => exSs O ms l o) = _ from ox_next h1 h2
theorem exSs_ret {m : MS} {ms : MSs} (h1 : exS O m l o = some (.ret v, l1, o1)) : exSs O (.cons m ms) l o = some (.ret v, l1, o1) :=
  show oxM (exS O m l o) (fun l o => exSs O ms l o) = _ from ox_ret h1
end
section
variable {C : Cfg} {nd : Nat}
theorem obj_src {X γ : List Addr} {led : Led} {a : Addr} {c : List (Nat × Nat)} {i j : Int} (h : ObjIs C X γ led a (.list [.int i, .int j])) (hc : Cons c i j) : ObjIs C X γ led a (.src c) := by
  obtain ⟨vs, ob, h1, ⟨⟨n, rfl⟩, hZ⟩, h2⟩ := h
  simp only [VRs, VR] at h2
  obtain ⟨v, vs', rfl, ⟨t, rfl⟩, w, vs2, rfl, ⟨u, rfl⟩, rfl⟩ := h2
  exact ⟨i, j, t, u, n, h1, hc, hZ⟩
theorem take_lift {f : Value} {s t : Nat} {r : Int} {c0 c1 : List (Nat × Nat)} {o : Objs} (h : ∀ i j, Cons c0 i j → ∃ i' j', Cons c1 i' j' ∧ SC C nd f [.ref 0, .int t] [.list [.int i, .int j]] (.int r) [.list [.int i', .int j']]) (ho : o[s]? = some (.src c0)) : SC C nd f [.ref s, .int t] o (.int r) (o.set s (.src c1)) := by
  intro A s' X γ led vs Q E R ne H Rl hv hQ
  simp only [VRs, VR] at hv
  obtain ⟨v, vs', rfl, ⟨a, ha, rfl⟩, w, vs2, rfl, ⟨tt, rfl⟩, rfl⟩ := hv
  obtain ⟨i, j, t1, u1, n, h1, hc, hZ⟩ := Rl.has _ _ _ ho ha
  obtain ⟨i', j', hc', S⟩ := h i j hc
  have aX : a ∉ X := Rl.apart a (List.mem_of_getElem? ha)
  refine S A s' X [a] led _ Q E R ne H ⟨rfl, by simp, by simpa using aX, Rl.inled, fun k ob b e1 e2 => ?_⟩ (by simp only [VRs, VR]; exact ⟨_, _, rfl, ⟨a, rfl, rfl⟩, _, _, rfl, ⟨tt, rfl⟩, rfl⟩) fun v h1' tk γ1 led1 H1 R1 e1 hv1 => ?_
  · cases k with
    | succ k => simp at e1
    | zero =>
      simp at e1 e2
      subst e1 e2
      exact ⟨_, _, h1, ⟨⟨n, rfl⟩, hZ⟩, by simp only [VRs, VR]; exact ⟨_, _, rfl, ⟨t1, rfl⟩, _, _, rfl, ⟨u1, rfl⟩, rfl⟩⟩
  · obtain ⟨nw, rfl, hn⟩ := e1.pre
    have e : Ext [] γ led γ led1 := ⟨⟨[], by simp, by simp⟩, fun p hp hg ho => e1.stay p hp (by
      intro q
      rw [List.mem_singleton.mp q] at hg
      exact hg (List.mem_of_getElem? ha)) ho, e1.keys⟩
    have hv2 : VR C X γ led1 (.int r) v := by simp only [VR] at hv1 ⊢; exact hv1
    refine hQ v h1' tk γ led1 H1 ⟨by simp [Rl.len], Rl.nodup, Rl.apart, fun x hx => e1.keys x (Rl.inled x hx), fun k ob b g1 g2 => ?_⟩ e hv2
    by_cases hk : k = s
    · subst hk
      rw [ha] at g2
      cases g2
      have hl := (List.getElem?_eq_some_iff.mp ho).1
      rw [List.getElem?_set_self hl] at g1
      cases g1
      have q := R1.has 0 _ a rfl rfl
      have q2 := obj_src q hc'
      exact q2
    · rw [List.getElem?_set_ne (Ne.symm hk)] at g1
      have hb : b ≠ a := fun e => by
        subst e
        have l1 := (List.getElem?_eq_some_iff.mp g2).1
        exact hk ((List.getElem?_inj l1 Rl.nodup).mp (g2.trans ha.symm))
      exact (Rl.has k ob b g1 g2).ext e (by simp) fun ob'' hm => e1.stay _ hm (by simpa using hb) (by simp)
theorem sc_src {f : Value} {args : List AV} {o : Objs} {r : AV} {c : List (Nat × Nat)} {i j : Int} (h : SC C nd f args o r (o ++ [.list [.int i, .int j]])) (hc : Cons c i j) : SC C nd f args o r (o ++ [.src c]) := by
  intro A s' X γ led vs Q E R ne H Rl hv hQ
  refine h A s' X γ led vs Q E R ne H Rl hv fun v h1 tk γ1 led1 H1 R1 e1 hv1 => ?_
  refine hQ v h1 tk γ1 led1 H1 ⟨by simpa using R1.len, R1.nodup, R1.apart, R1.inled, fun k ob b g1 g2 => ?_⟩ e1 hv1
  by_cases hk : k < o.length
  · rw [List.getElem?_append_left hk] at g1
    exact R1.has k ob b (by rw [List.getElem?_append_left hk]; exact g1) g2
  · have hl := (List.getElem?_eq_some_iff.mp g1).1
    simp at hl
    have : k = o.length := by omega
    subst this
    simp at g1
    subst g1
    exact obj_src (R1.has _ _ b (by simp) g2) hc
end
end
section
noncomputable def elseM : MS → MSs
  | .ifS _ _ b => b
  | _ => .nil
noncomputable def exprM : MS → ME
  | .ret e => e
  | .asg _ e => e
  | .asgT _ e => e
  | .asgS _ _ e => e
  | .asgA _ _ e => e
  | .expr e => e
  | _ => .c .none
noncomputable abbrev O1 : Orc := orcX nob 1
section
variable {C : Cfg} {nd : Nat}
theorem o1_ok (S : Std C) : OrcOk C (nd + 2) O1 := orcX_ok S (nd := nd) nob_ok 1
theorem hand_15 (T : Std C) : HandOk C 283 p__law_take [] b__law_take := by
  obtain ⟨fd, h1, h2, h3, h4⟩ := fd_15 C.w
  exact hand_3 T h1 h2 h3 fun vs hl => by obtain ⟨a, b, rfl⟩ := len2 hl; exact h4 a b
noncomputable def jn (j : Int) : Int := Int.fmod (j * 39373 + 7) 2147483647
theorem jn_lo (j : Int) : 0 ≤ jn j := Int.fmod_nonneg_of_pos _ (by decide)
theorem jn_hi (j : Int) : jn j < 2147483648 := by
  have := Int.fmod_lt_of_pos (a := j * 39373 + 7) (b := 2147483647) (by decide)
  unfold jn
  omega
noncomputable def takeL (t : Nat) : Loc := [(n_source_, .ref 0), (n_top_, .int t)]
theorem take_true (t : Nat) (ht : t = 2 ∨ t = 3 ∨ t = 4 ∨ t = 5) (i j : Int) : exSs O1 (thenM (hdM b__law_take)) (takeL t) [.list [.int i, .int j]] = some (.ret (.int (Int.fmod i t)), takeL t ++ [(n_drawn_, .int (Int.fmod i t))], [.list [.int (Int.fdiv i t), .int j]]) := by
  rcases ht with rfl | rfl | rfl | rfl <;> kernel_rfl
theorem take_false (t : Nat) (ht : t = 2 ∨ t = 3 ∨ t = 4 ∨ t = 5) (i j : Int) : exSs O1 (tlM b__law_take) (takeL t) [.list [.int i, .int j]] = some (.ret (.int (Int.fmod (Int.fdiv (Int.fmod (jn j * jn j) 2147483629) 32) t)), takeL t, [.list [.int i, .int (jn j)]]) := by
  refine exSs_cons (l1 := takeL t) (o1 := [.list [.int i, .int (jn j)]]) (by kernel_rfl) (exSs_ret (exS_ret ?_))
  have s1 : (ev O1 (.sub (.lv n_source_) (.c (.int 1)))).1 (takeL t) [.list [.int i, .int (jn j)]] = some (.int (jn j), [.list [.int i, .int (jn j)]]) := by kernel_rfl
  have lo := jn_lo j
  have hi := jn_hi j
  have m1 : binA .Mult (.int (jn j)) (.int (jn j)) = some (.int (jn j * jn j)) := by
    show (if -(2 ^ 60) < jn j ∧ jn j < 2 ^ 60 then some (AV.int (jn j * jn j)) else none) = _
    rw [if_pos]
    constructor
    · have : -(2 ^ 60) < (0 : Int) := by decide
      omega
    · have : (2147483648 : Int) < 2 ^ 60 := by decide
      omega
  have c1 : (ev O1 (.call (.gl 19) (.cons (.bin .Mult (.sub (.lv n_source_) (.c (.int 1))) (.sub (.lv n_source_) (.c (.int 1)))) .nil))).1 (takeL t) [.list [.int i, .int (jn j)]] = some (.int (jn j * jn j), [.list [.int i, .int (jn j)]]) := ev_call rfl (evs_cons (ev_bin s1 s1 m1) evs_nil) rfl
  have c2 := ev_bin (op := .FloorDiv) (b := .c (.int 32)) (ev_bin (op := .Mod) (b := .c (.int 2147483629)) (r := .int (Int.fmod (jn j * jn j) 2147483629)) c1 ev_c (by kernel_rfl)) (r := .int (Int.fdiv (Int.fmod (jn j * jn j) 2147483629) 32)) ev_c (by kernel_rfl)
  refine ev_bin (v := .int t) (ev_call (f := .gl 19) rfl (evs_cons c2 evs_nil) rfl) (by kernel_rfl) ?_
  rcases ht with rfl | rfl | rfl | rfl <;> kernel_rfl
theorem take_run (S : Std C) (t : Nat) (ht : t = 2 ∨ t = 3 ∨ t = 4 ∨ t = 5) (i j : Int) : SC C 20 (C.gval 15) [.ref 0, .int t] [.list [.int i, .int j]] (.int (draw t i j).1) [.list [.int (draw t i j).2.1, .int (draw t i j).2.2]] := by
  rw [show C.gval 15 = .ref 283 from S.gv 15 (by decide)]
  have hT : ∀ b, decide (0 < i) = b → XT C 10 (testM (hdM b__law_take)) (takeL t) [.list [.int i, .int j]] b [.list [.int i, .int j]] := fun b hb =>
    XT.of S (o1_ok S (nd := 8)) (orcX_gls _ _) (by rw [← hb]; kernel_rfl)
  have F := hand_15 S 10 [.ref 0, .int t] [.list [.int i, .int j]]
  have e : ∀ b, decide (0 < i) = b → draw t i j = (match b with
    | true => (Int.fmod i t, Int.fdiv i t, j)
    | false => (Int.fmod (Int.fdiv (Int.fmod (jn j * jn j) 2147483629) 32) t, i, jn j)) := fun b hb => by
    unfold draw
    rw [hb]
    cases b <;> rfl
  cases q : decide (0 < i) with
  | true =>
    rw [e _ q]
    have h : SM C 10 1 b__law_take (takeL t) [.list [.int i, .int j]] (.ret (.int (Int.fmod i t))) (takeL t ++ [(n_drawn_, .int (Int.fmod i t))]) [.list [.int (Int.fdiv i t), .int j]] :=
      SM.ret (S1.ifS (hT _ q) (SM.of S (o1_ok S (nd := 8)) (orcX_gls _ _) (take_true t ht i j)))
    exact (F _ _ _ rfl h).sc.mono (by omega)
  | false =>
    rw [e _ q]
    have h : SM C 10 1 b__law_take (takeL t) [.list [.int i, .int j]] (.ret (.int (Int.fmod (Int.fdiv (Int.fmod (jn j * jn j) 2147483629) 32) t))) (takeL t) [.list [.int i, .int (jn j)]] :=
      SM.cons (S1.ifS (hT _ q) SM.nil) (SM.of S (o1_ok S (nd := 8)) (orcX_gls _ _) (take_false t ht i j))
    exact (F _ _ _ rfl h).sc.mono (by omega)
noncomputable def okT (t : Nat) : Bool := (Nat.beq t 2).or ((Nat.beq t 3).or ((Nat.beq t 4).or (Nat.beq t 5)))
theorem okT_ok {t : Nat} (h : okT t = true) : t = 2 ∨ t = 3 ∨ t = 4 ∨ t = 5 := by
  simp only [okT, Bool.or_eq_true] at h
  rcases h with h | h | h | h
  · exact .inl (Nat.eq_of_beq_eq_true h)
  · exact .inr (.inl (Nat.eq_of_beq_eq_true h))
  · exact .inr (.inr (.inl (Nat.eq_of_beq_eq_true h)))
  · exact .inr (.inr (.inr (Nat.eq_of_beq_eq_true h)))
noncomputable def tkB : Base := fun i as o => bif Nat.beq i 15 then (match as with
  | [.ref s, .int (.ofNat k)] => (match o[s]? with
    | some (.src ((t, r) :: c)) => (bif (Nat.beq k t).and (okT t) then some (.int r, o.set s (.src c)) else none)
    | _ => none)
  | _ => none) else none
theorem tkB_ok (S : Std C) : BaseOk C 20 tkB := by
  intro i as o r o' h
  unfold tkB at h
  cases q : Nat.beq i 15 with
  | false => rw [q] at h; cases h
  | true =>
    have := Nat.eq_of_beq_eq_true q
    subst this
    refine ⟨?_, kp_15 S⟩
    rw [q] at h
    simp only [cond_true] at h
    split at h
    · rename_i s k
      split at h
      · rename_i t r0 c ho
        cases z : (Nat.beq k t).and (okT t) with
        | false => rw [z] at h; cases h
        | true =>
          rw [z] at h
          cases h
          rw [Bool.and_eq_true] at z
          have hk := Nat.eq_of_beq_eq_true z.1
          subst hk
          exact take_lift (fun i j hc => by
            obtain ⟨_, h2, h3⟩ := hc
            refine ⟨_, _, h3, ?_⟩
            rw [← h2]
            exact take_run S k (okT_ok z.2) i j) ho
      · cases h
    · cases h
end
end
section
noncomputable def Bd (j : Int) : Prop := 0 ≤ j ∧ j < 2147483648
noncomputable def Path (d : List (Nat × Nat)) (i j i' j' : Int) : Prop := Bd j' ∧ ∀ c, Cons c i' j' → Cons (d ++ c) i j
theorem Path.nil {i j : Int} (h : Bd j) : Path [] i j i j := ⟨h, fun c hc => hc⟩
theorem Path.trans {d e : List (Nat × Nat)} {i j i1 j1 i2 j2 : Int} (a : Path d i j i1 j1) (b : Path e i1 j1 i2 j2) : Path (d ++ e) i j i2 j2 :=
  ⟨b.1, fun c hc => by rw [List.append_assoc]; exact a.2 _ (b.2 c hc)⟩
theorem one_draw (t : Nat) (ht : 0 < t) (i j : Int) (hj : Bd j) : ∃ r, r < t ∧ ∃ i' j', Path [(t, r)] i j i' j' := by
  have hb : Bd (draw t i j).2.2 := by
    unfold draw
    split
    · exact hj
    · exact ⟨jn_lo j, jn_hi j⟩
  have h0 : 0 ≤ (draw t i j).1 ∧ (draw t i j).1 < t := by
    have ht' : (0 : Int) < t := by omega
    unfold draw
    split
    · exact ⟨Int.fmod_nonneg_of_pos _ ht', Int.fmod_lt_of_pos _ ht'⟩
    · exact ⟨Int.fmod_nonneg_of_pos _ ht', Int.fmod_lt_of_pos _ ht'⟩
  refine ⟨(draw t i j).1.toNat, by omega, (draw t i j).2.1, (draw t i j).2.2, hb, fun c hc => ?_⟩
  exact ⟨hj, (Int.toNat_of_nonneg h0.1).symm, hc⟩
theorem Path.cons {i j : Int} (h : Bd j) {c : List (Nat × Nat)} {d : List (Nat × Nat)} {i' j' : Int} (p : Path d i j i' j') : Cons d i j := by
  have := p.2 [] p.1
  rw [List.append_nil] at this
  exact this
section
variable {C : Cfg} {nd : Nat}
noncomputable def intL (xs : List Int) : AObj := .fix (xs.map .int)
noncomputable def bigOf (c : Int) : Int := max c (-1 - c)
noncomputable def poolJ (k c : Int) : Int := Int.fmod ((Int.fmod (bigOf c) 2147483629 + 7919 * k * k + 31 * k + 17) * 48271) 2147483647
theorem pool_run (xs : List Int) (hx : xs.length ≤ 63) (k : Nat) (hk : k = 0 ∨ k = 1) : ∃ i j, Bd j ∧ ∃ l', exSs O1 b__law_pool [(n_script_, .ref 0), (n_k_, .int k)] [intL xs] = some (.ret (.ref 1), l', [intL xs, .list [.int i, .int j]]) := by
  have e50 : O1.call 50 [.ref 0] [intL xs] = some (.int (.ofNat xs.length), [intL xs]) := by
    show (if (xs.map AV.int).length < 1000 then some (AV.int (.ofNat (xs.map AV.int).length), [intL xs]) else none) = _
    rw [List.length_map, if_pos (by omega)]
  have c1 : ∀ b, decide ((k : Int) < (xs.length : Int)) = b → ∃ c, (ev O1 (exprM (hdM b__law_pool))).1 [(n_script_, .ref 0), (n_k_, .int k)] [intL xs] = some (.int c, [intL xs]) := fun b hb => by
    have t : (ev O1 (.cmp .Lt (.lv n_k_) (.call (.gl 4) (.cons (.lv n_script_) .nil)))).2 [(n_script_, .ref 0), (n_k_, .int k)] [intL xs] = some (b, [intL xs]) :=
      (ev_cmp (u := .int k) (v := .int (.ofNat xs.length)) (ev_lv rfl) (ev_call rfl (evs_cons (ev_lv rfl) evs_nil) e50) (by rw [← hb]; rfl)).2
    cases b with
    | true =>
      have hlt : k < xs.length := by have := of_decide_eq_true hb; omega
      refine ⟨xs[k], ev_ife t (ev_sub (u := .ref 0) (v := .int (.ofNat k)) (ev_lv rfl) (ev_lv rfl) ?_)⟩
      exact ot_eq (x := (xs.map AV.int)[k]?) (by rcases hk with rfl | rfl <;> rfl) (by simp [List.getElem?_eq_getElem hlt])
    | false => exact ⟨0, ev_ife t ev_c⟩
  obtain ⟨c, hc⟩ := c1 _ rfl
  refine ⟨bigOf c * b2i (decide ((10 : Int) ^ 18 ≤ bigOf c)), poolJ k c, ⟨Int.fmod_nonneg_of_pos _ (by decide), ?_⟩, [(n_script_, .ref 0), (n_k_, .int k), (n_cell_, .int c), (n_big_, .int (bigOf c)), (n_mixed_, .int (poolJ k c))], exSs_cons (exS_asg hc) ?_⟩
  · have := Int.fmod_lt_of_pos ((Int.fmod (bigOf c) 2147483629 + 7919 * k * k + 31 * k + 17) * 48271) (b := 2147483647) (by decide)
    unfold poolJ
    omega
  · have hb1 : ∀ b : Bool, binA .Mult (.int (bigOf c)) (.int (b2i b)) = some (.int (bigOf c * b2i b)) := fun b => by cases b <;> rfl
    have l2 : exS O1 (hdM (tlM b__law_pool)) [(n_script_, .ref 0), (n_k_, .int k), (n_cell_, .int c)] [intL xs] = some (.next, [(n_script_, .ref 0), (n_k_, .int k), (n_cell_, .int c), (n_big_, .int (bigOf c))], [intL xs]) := by kernel_rfl
    have l3 : exS O1 (hdM (tlM (tlM b__law_pool))) [(n_script_, .ref 0), (n_k_, .int k), (n_cell_, .int c), (n_big_, .int (bigOf c))] [intL xs] = some (.next, [(n_script_, .ref 0), (n_k_, .int k), (n_cell_, .int c), (n_big_, .int (bigOf c)), (n_mixed_, .int (poolJ k c))], [intL xs]) := by
      rcases hk with rfl | rfl <;> kernel_rfl
    refine exSs_cons (m := hdM (tlM b__law_pool)) (ms := tlM (tlM b__law_pool)) l2 (exSs_cons (m := hdM (tlM (tlM b__law_pool))) (ms := tlM (tlM (tlM b__law_pool))) l3 (exSs_ret (exS_ret (ev_lst (vs := [.int (bigOf c * b2i (decide ((10 : Int) ^ 18 ≤ bigOf c))), .int (poolJ k c)]) (o1 := [intL xs]) ?_))))
    refine evs_cons (ev_bin (ev_lv (v := .int (bigOf c)) rfl) (ev_call rfl (evs_cons (ev_cmp (u := .int (bigOf c)) (v := .int ((10 : Int) ^ 18)) (c := decide ((10 : Int) ^ 18 ≤ bigOf c)) (ev_lv rfl) (by kernel_rfl) rfl).1 evs_nil) rfl) (hb1 _)) (evs_cons (ev_lv rfl) evs_nil)
theorem pool_ok (S : Std C) (xs : List Int) (hx : xs.length ≤ 63) (k : Nat) (hk : k = 0 ∨ k = 1) : ∃ i j, Bd j ∧ ∀ c, Cons c i j → SC C 40 (C.gval 14) [.ref 0, .int k] [intL xs] (.ref 1) [intL xs, .src c] := by
  obtain ⟨i, j, hj, l', h⟩ := pool_run xs hx k hk
  refine ⟨i, j, hj, fun c hc => ?_⟩
  rw [show C.gval 14 = .ref 276 from S.gv 14 (by decide)]
  have F := hand_14 S 10 [.ref 0, .int k] [intL xs] _ _ _ rfl (SM.of S (o1_ok S (nd := 8)) (orcX_gls _ _) h)
  exact (sc_src (o := [intL xs]) F.sc hc).mono (by omega)
end
end
section
section
variable {O : Orc} {l l1 l2 : Loc} {o o1 o2 : Objs} {v : AV} {src : Src} {xs : List Nm} {b : MSs} {bv : SV} {f k : Nat} {R : Option (FL × Loc × Objs)}
theorem exS_forS {it : ME} (h1 : (ev O it).1 l o = some (v, o1)) (h2 : srcOf o1 v = some src) (h3 : forGo src xs (exSs O b) fuelC 0 l o1 = R) : exS O (.forS xs it b) l o = R :=
  show obM ((ev O it).1 l o) (fun v o => oaM (srcOf o v) fun src => forGo src xs (exSs O b) fuelC 0 l o) = _ from ob_eq h1 (oa_eq h2 h3)
theorem forGo_step (h1 : srcItem o k src = some (some v)) (h2 : bindT xs v l = some l1) (h3 : bv l1 o = some (.next, l2, o2)) (h4 : forGo src xs bv f (k + 1) l2 o2 = R) : forGo src xs bv (f + 1) k l o = R :=
  oa_eq (x := srcItem o k src) h1 (oa_eq (x := bindT xs v l) h2 (ox_next h3 h4))
theorem forGo_end (h1 : srcItem o k src = some none) : forGo src xs bv (f + 1) k l o = some (.next, l, o) :=
  oa_eq (x := srcItem o k src) h1 rfl
end
theorem cvs_ints {g : Nat} {tok : Nat → AV} : ∀ xs : List Int, cvs g tok (xs.map .int) = xs.map .int
  | [] => rfl
  | x :: r => by
    show AV.int x :: cvs g tok (r.map .int) = _
    rw [cvs_ints r]
    rfl
noncomputable def intS (s : Bool) : AV := .int (match s with | true => 1 | false => 0)
noncomputable def mkA : Mk → AV
  | none => .none
  | some (b, s) => .tup [.bool b, intS s]
noncomputable def markD (w s : Nat) : List (Nat × Nat) := match w with
  | 0 => [(5, 0)]
  | w + 1 => [(5, w + 1), (3, s)]
noncomputable def mkOf (w s : Nat) : Mk := match w with
  | 0 => none
  | w + 1 => some (Nat.blt 2 (w + 1), Nat.beq s 2)
noncomputable def cnt (w : Nat) : Nat := match w with
  | 0 => 0
  | _ + 1 => 1
noncomputable def Ls (m : Nat) : Objs := List.replicate m (.list [.int 0, .int 0, .int 1])
noncomputable abbrev O2 : Orc := orcX tkB 3
noncomputable def marksL : Loc := [(n_source_, .ref 1), (n_found_, .ref 2)]
noncomputable def mBody : MSs := bodyM (hdM (tlM b__law_marks))
noncomputable def marksX (x : Nm) (w : Option Nat) : Loc := marksL ++ [(n_name_, .str x)] ++ (match w with | none => [] | some w => [(n_way_, .int w)])
noncomputable def D0 : AObj := .dict [] [] (some 0)
noncomputable def D1 (a : AV) : AObj := .dict [n_f_] [a] (some 1)
noncomputable def D2 (a b : AV) : AObj := .dict [n_f_, n_g_] [a, b] (some 2)
noncomputable def D3 (a b c : AV) : AObj := .dict [n_f_, n_g_, n_h_] [a, b, c] (some 3)
theorem lt5 {w : Nat} (h : w < 5) : w = 0 ∨ w = 1 ∨ w = 2 ∨ w = 3 ∨ w = 4 := by omega
theorem lt4 {w : Nat} (h : w < 4) : w = 0 ∨ w = 1 ∨ w = 2 ∨ w = 3 := by omega
theorem lt3 {w : Nat} (h : w < 3) : w = 0 ∨ w = 1 ∨ w = 2 := by omega
theorem lt2 {w : Nat} (h : w < 2) : w = 0 ∨ w = 1 := by omega
theorem mTurn_f (scr : AObj) (w s : Nat) (hw : w < 5) (hs : s < 3) (c : List (Nat × Nat)) : exSs O2 mBody (marksX n_f_ none) [scr, .src (markD w s ++ c), D0] = some (.next, marksX n_f_ (some w), [scr, .src c, D1 (mkA (mkOf w s))] ++ Ls (cnt w)) := by
  exact mapX_eq (f := fun p : Nat × Nat => exSs O2 mBody (marksX n_f_ none) [scr, .src (markD p.1 p.2 ++ c), D0]) (g := fun p => some (.next, marksX n_f_ (some p.1), [scr, .src c, D1 (mkA (mkOf p.1 p.2))] ++ Ls (cnt p.1))) (l := prodL (natL 5) (natL 3)) (by kernel_rfl) (w, s) (prod_mem (nat_mem hw) (nat_mem hs))
theorem mTurn_g (scr : AObj) (a : AV) (m w' w s : Nat) (hm : m < 2) (hw : w < 5) (hs : s < 3) (c : List (Nat × Nat)) : exSs O2 mBody (marksX n_g_ (some w')) ([scr, .src (markD w s ++ c), D1 a] ++ Ls m) = some (.next, marksX n_g_ (some w), [scr, .src c, D2 a (mkA (mkOf w s))] ++ Ls (m + cnt w)) := by
  exact mapX_eq (f := fun p : Nat × Nat × Nat => exSs O2 mBody (marksX n_g_ (some w')) ([scr, .src (markD p.2.1 p.2.2 ++ c), D1 a] ++ Ls p.1)) (g := fun p => some (.next, marksX n_g_ (some p.2.1), [scr, .src c, D2 a (mkA (mkOf p.2.1 p.2.2))] ++ Ls (p.1 + cnt p.2.1))) (l := prodL (natL 2) (prodL (natL 5) (natL 3))) (by kernel_rfl) (m, w, s) (prod_mem (nat_mem hm) (prod_mem (nat_mem hw) (nat_mem hs)))
theorem mTurn_h (scr : AObj) (a b : AV) (m w' w s : Nat) (hm : m < 3) (hw : w < 5) (hs : s < 3) (c : List (Nat × Nat)) : exSs O2 mBody (marksX n_h_ (some w')) ([scr, .src (markD w s ++ c), D2 a b] ++ Ls m) = some (.next, marksX n_h_ (some w), [scr, .src c, D3 a b (mkA (mkOf w s))] ++ Ls (m + cnt w)) := by
  exact mapX_eq (f := fun p : Nat × Nat × Nat => exSs O2 mBody (marksX n_h_ (some w')) ([scr, .src (markD p.2.1 p.2.2 ++ c), D2 a b] ++ Ls p.1)) (g := fun p => some (.next, marksX n_h_ (some p.2.1), [scr, .src c, D3 a b (mkA (mkOf p.2.1 p.2.2))] ++ Ls (p.1 + cnt p.2.1))) (l := prodL (natL 3) (prodL (natL 5) (natL 3))) (by kernel_rfl) (m, w, s) (prod_mem (nat_mem hm) (prod_mem (nat_mem hw) (nat_mem hs)))
theorem cnt_lt (w : Nat) : cnt w < 2 := by cases w <;> simp [cnt]
theorem marks_run (scr : AObj) (wf sf wg sg wh sh : Nat) (h1 : wf < 5) (h2 : sf < 3) (h3 : wg < 5) (h4 : sg < 3) (h5 : wh < 5) (h6 : sh < 3) (c : List (Nat × Nat)) :
    exSs O2 b__law_marks [(n_source_, .ref 1)] [scr, .src (markD wf sf ++ (markD wg sg ++ (markD wh sh ++ c)))] = some (.ret (.ref 2), marksX n_h_ (some wh), [scr, .src c, D3 (mkA (mkOf wf sf)) (mkA (mkOf wg sg)) (mkA (mkOf wh sh))] ++ Ls (cnt wf + cnt wg + cnt wh)) := by
  have q1 := cnt_lt wf
  have q2 := cnt_lt wg
  refine exSs_cons (l1 := marksL) (o1 := [scr, .src (markD wf sf ++ (markD wg sg ++ (markD wh sh ++ c))), D0]) (by kernel_rfl) (exSs_cons (l1 := marksX n_h_ (some wh)) (o1 := [scr, .src c, D3 (mkA (mkOf wf sf)) (mkA (mkOf wg sg)) (mkA (mkOf wh sh))] ++ Ls (cnt wf + cnt wg + cnt wh)) (exS_forS (v := .str n_fgh_) (src := .items [.str n_f_, .str n_g_, .str n_h_]) rfl rfl ?_) (exSs_ret (exS_ret (ev_lv rfl))))
  refine forGo_step (v := .str n_f_) (l1 := marksX n_f_ none) rfl (by kernel_rfl) (mTurn_f scr wf sf h1 h2 _) ?_
  refine forGo_step (v := .str n_g_) (l1 := marksX n_g_ (some wf)) rfl (by kernel_rfl) (mTurn_g scr _ (cnt wf) wf wg sg q1 h3 h4 _) ?_
  refine forGo_step (v := .str n_h_) (l1 := marksX n_h_ (some wg)) rfl (by kernel_rfl) (mTurn_h scr _ _ (cnt wf + cnt wg) wg wh sh (by omega) h5 h6 _) ?_
  exact forGo_end rfl
noncomputable def marksA (mf mg mh : Mk) : AV := .fdict [n_f_, n_g_, n_h_] [mkA mf, mkA mg, mkA mh]
theorem mkA_cv {g : Nat} {tok : Nat → AV} (m : Mk) : cvA g tok (mkA m) = mkA m := by
  rcases m with _ | ⟨_, _ | _⟩ <;> rfl
section
variable {C : Cfg} {nd : Nat}
theorem marks_ok (S : Std C) (xs : List Int) (wf sf wg sg wh sh : Nat) (h1 : wf < 5) (h2 : sf < 3) (h3 : wg < 5) (h4 : sg < 3) (h5 : wh < 5) (h6 : sh < 3) (c : List (Nat × Nat)) :
    SC C 60 (C.gval 18) [.ref 1] [intL xs, .src (markD wf sf ++ (markD wg sg ++ (markD wh sh ++ c)))] (marksA (mkOf wf sf) (mkOf wg sg) (mkOf wh sh)) [intL xs, .src c] := by
  rw [show C.gval 18 = .ref 306 from S.gv 18 (by decide)]
  have F := fn_18 S.ok (std_en S) S.K _ _ (orcX_ok S (tkB_ok S) 3) (orcX_gls _ _) [.ref 1] _ _ _ _ rfl (marks_run (intL xs) wf sf wg sg wh sh h1 h2 h3 h4 h5 h6 c)
  have G := sc_cmp (k := 3) (n := 2) (rest := []) (o2 := [intL xs, .src c]) F.sc rfl (by decide) (by
    show some [AObj.fix (cvs 1000 _ (xs.map .int)), .src c] = _
    rw [cvs_ints]
    rfl)
  refine (show SC C 27 (.ref 306) _ _ _ _ from ?_).mono (by omega)
  have e : ∀ tok : Nat → AV, AV.fdict [n_f_, n_g_, n_h_] [cvA 1000 tok (mkA (mkOf wf sf)), cvA 1000 tok (mkA (mkOf wg sg)), cvA 1000 tok (mkA (mkOf wh sh))] = marksA (mkOf wf sf) (mkOf wg sg) (mkOf wh sh) := fun tok => by
    rw [mkA_cv, mkA_cv, mkA_cv]; rfl
  rw [← e]
  exact G
end
end
section
noncomputable def wdL : List Wd := [.hol, .holP, .num, .numP]
theorem wd_mem (w : Wd) : w ∈ wdL := by
  cases w with
  | hol => exact .head _
  | holP => exact .tail _ (.head _)
  | num => exact .tail _ (.tail _ (.head _))
  | numP => exact .tail _ (.tail _ (.tail _ (.head _)))
noncomputable def overA : Ov → AV
  | .no => .none
  | .fld x _ => .tup [.str x.n, .none]
  | .mth x b s => .tup [.str x.n, .tup [.bool b, intS s]]
noncomputable def seenV : Seen → AV
  | none => .none
  | some (s, b) => .tup [intS s, .bool b]
noncomputable def markF (wd : Wd) (m : Mk) (o : Ov) (x : Fg) : AV := match wd.isH with
  | false => mkA m
  | true => match o with
    | .no => mkA m
    | .fld y _ => match eqF y x with
      | true => .none
      | false => mkA m
    | .mth y b s => match eqF y x with
      | true => .tup [.bool b, intS s]
      | false => mkA m
noncomputable def freeF (wd : Wd) (o : Ov) (led : Bool) (x : Fg) : Bool := match wd.isH with
  | false => wd.ptr
  | true => match o with
    | .no => wd.ptr.or led
    | .fld y _ => match eqF y x with
      | true => wd.ptr
      | false => wd.ptr.or led
    | .mth y _ _ => match eqF y x with
      | true => wd.ptr
      | false => wd.ptr.or led
noncomputable def seenX (mf mg mh : Mk) (o : Ov) (led : Bool) (wd : Wd) : Loc := [(n_marks_, marksA mf mg mh), (n_over_, overA o), (n_is_led_, .bool led), (n_word_, .str wd.n), (n_found_, .ref 0)]
noncomputable def seenL (mf mg mh : Mk) (o : Ov) (led : Bool) (wd : Wd) (x : Nm) (p : Option (AV × AV)) : Loc := seenX mf mg mh o led wd ++ [(n_name_, .str x)] ++ (match p with | none => [] | some (a, b) => [(n_mark_, a), (n_is_free_, b)])
noncomputable def sBody : MSs := bodyM (hdM (tlM b__law_seen))
noncomputable def Lw (m : Nat) : Objs := List.replicate m (.list [.str n_number_pointer_, .str n_holder_pointer_])
theorem sTurn_f (mf mg mh : Mk) (o : Ov) (led : Bool) (wd : Wd) : exSs O1 sBody (seenL mf mg mh o led wd n_f_ none) [D0] = some (.next, seenL mf mg mh o led wd n_f_ (some (markF wd mf o .f, .bool (freeF wd o led .f))), [D1 (seenV (seen wd mf mg mh o led .f))] ++ Lw 1) := by
  exact mapX_eq (f := fun p : Mk × Wd × Bool × Ov => exSs O1 sBody (seenL p.1 mg mh p.2.2.2 p.2.2.1 p.2.1 n_f_ none) [D0]) (g := fun p => some (.next, seenL p.1 mg mh p.2.2.2 p.2.2.1 p.2.1 n_f_ (some (markF p.2.1 p.1 p.2.2.2 .f, .bool (freeF p.2.1 p.2.2.2 p.2.2.1 .f))), [D1 (seenV (seen p.2.1 p.1 mg mh p.2.2.2 p.2.2.1 .f))] ++ Lw 1)) (l := prodL mkL (prodL wdL (prodL boolL ovL))) (by kernel_rfl) (mf, wd, led, o) (prod_mem (mk_mem mf) (prod_mem (wd_mem wd) (prod_mem (bool_mem led) (ov_mem o))))
theorem sTurn_g (mf mg mh : Mk) (o : Ov) (led : Bool) (wd : Wd) (a u v : AV) : exSs O1 sBody (seenL mf mg mh o led wd n_g_ (some (u, v))) ([D1 a] ++ Lw 1) = some (.next, seenL mf mg mh o led wd n_g_ (some (markF wd mg o .g, .bool (freeF wd o led .g))), [D2 a (seenV (seen wd mf mg mh o led .g))] ++ Lw 2) := by
  exact mapX_eq (f := fun p : Mk × Wd × Bool × Ov => exSs O1 sBody (seenL mf p.1 mh p.2.2.2 p.2.2.1 p.2.1 n_g_ (some (u, v))) ([D1 a] ++ Lw 1)) (g := fun p => some (.next, seenL mf p.1 mh p.2.2.2 p.2.2.1 p.2.1 n_g_ (some (markF p.2.1 p.1 p.2.2.2 .g, .bool (freeF p.2.1 p.2.2.2 p.2.2.1 .g))), [D2 a (seenV (seen p.2.1 mf p.1 mh p.2.2.2 p.2.2.1 .g))] ++ Lw 2)) (l := prodL mkL (prodL wdL (prodL boolL ovL))) (by kernel_rfl) (mg, wd, led, o) (prod_mem (mk_mem mg) (prod_mem (wd_mem wd) (prod_mem (bool_mem led) (ov_mem o))))
theorem sTurn_h (mf mg mh : Mk) (o : Ov) (led : Bool) (wd : Wd) (a b u v : AV) : exSs O1 sBody (seenL mf mg mh o led wd n_h_ (some (u, v))) ([D2 a b] ++ Lw 2) = some (.next, seenL mf mg mh o led wd n_h_ (some (markF wd mh o .h, .bool (freeF wd o led .h))), [D3 a b (seenV (seen wd mf mg mh o led .h))] ++ Lw 3) := by
  exact mapX_eq (f := fun p : Mk × Wd × Bool × Ov => exSs O1 sBody (seenL mf mg p.1 p.2.2.2 p.2.2.1 p.2.1 n_h_ (some (u, v))) ([D2 a b] ++ Lw 2)) (g := fun p => some (.next, seenL mf mg p.1 p.2.2.2 p.2.2.1 p.2.1 n_h_ (some (markF p.2.1 p.1 p.2.2.2 .h, .bool (freeF p.2.1 p.2.2.2 p.2.2.1 .h))), [D3 a b (seenV (seen p.2.1 mf mg p.1 p.2.2.2 p.2.2.1 .h))] ++ Lw 3)) (l := prodL mkL (prodL wdL (prodL boolL ovL))) (by kernel_rfl) (mh, wd, led, o) (prod_mem (mk_mem mh) (prod_mem (wd_mem wd) (prod_mem (bool_mem led) (ov_mem o))))
theorem seen_run (mf mg mh : Mk) (o : Ov) (led : Bool) (wd : Wd) : ∃ l', exSs O1 b__law_seen [(n_marks_, marksA mf mg mh), (n_over_, overA o), (n_is_led_, .bool led), (n_word_, .str wd.n)] [] = some (.ret (.ref 0), l', [D3 (seenV (seen wd mf mg mh o led .f)) (seenV (seen wd mf mg mh o led .g)) (seenV (seen wd mf mg mh o led .h))] ++ Lw 3) := by
  refine ⟨seenL mf mg mh o led wd n_h_ (some (markF wd mh o .h, .bool (freeF wd o led .h))), ?_⟩
  refine exSs_cons (l1 := seenX mf mg mh o led wd) (o1 := [D0]) (by kernel_rfl) (exSs_cons (l1 := seenL mf mg mh o led wd n_h_ (some (markF wd mh o .h, .bool (freeF wd o led .h)))) (o1 := [D3 (seenV (seen wd mf mg mh o led .f)) (seenV (seen wd mf mg mh o led .g)) (seenV (seen wd mf mg mh o led .h))] ++ Lw 3) (exS_forS (v := .str n_fgh_) (src := .items [.str n_f_, .str n_g_, .str n_h_]) rfl rfl ?_) (exSs_ret (exS_ret (ev_lv (by kernel_rfl)))))
  refine forGo_step (v := .str n_f_) (l1 := seenL mf mg mh o led wd n_f_ none) rfl (by kernel_rfl) (sTurn_f mf mg mh o led wd) ?_
  refine forGo_step (v := .str n_g_) (l1 := seenL mf mg mh o led wd n_g_ (some (markF wd mf o .f, .bool (freeF wd o led .f)))) rfl (by kernel_rfl) (sTurn_g mf mg mh o led wd _ _ _) ?_
  refine forGo_step (v := .str n_h_) (l1 := seenL mf mg mh o led wd n_h_ (some (markF wd mg o .g, .bool (freeF wd o led .g)))) rfl (by kernel_rfl) (sTurn_h mf mg mh o led wd _ _ _ _) ?_
  exact forGo_end rfl
noncomputable def seenA (sn : Fg → Seen) : AV := .fdict [n_f_, n_g_, n_h_] [seenV (sn .f), seenV (sn .g), seenV (sn .h)]
theorem plSeen (s : Seen) : plA (seenV s) = true := by
  rcases s with _ | ⟨_ | _, _⟩ <;> rfl
section
variable {C : Cfg} {nd : Nat}
theorem lift_fz {f : Value} {args : List AV} {o o' : Objs} {k : Nat} {ks : List Nm} {xs : List AV} {ep : Option Nat} (h : SC C nd f (cvs 1000 tokT args) [] (.ref k) o') (hk : o'[k]? = some (.dict ks xs ep)) (hp : plAs xs = true) : SC C nd f args o (.fdict ks xs) o := by
  intro A s X γ led vs Q E R ne H Rl hv hQ
  refine h A s X [] led vs Q E R ne H Rl.none (args_none hv) fun v h1 tk γ1 led1 H1 R1 e1 hv1 => ?_
  simp only [VR] at hv1
  obtain ⟨a, ha, rfl⟩ := hv1
  obtain ⟨nw, hnw, hn⟩ := e1.pre
  rw [List.nil_append] at hnw
  subst hnw
  have na : a ∉ keys led := hn a (List.mem_of_getElem? ha)
  have e : Ext [] γ led γ led1 := ⟨⟨[], by simp, by simp⟩, fun p hp hg ho => e1.stay p hp (by simp) ho, e1.keys⟩
  obtain ⟨es, n, us, q1, _, q2, q3, q4⟩ := R1.has k _ a hk ha
  refine hQ _ h1 tk γ led1 H1 (Rl.ext (own := []) (by simp) (fun p hp _ => e1.stay p hp (by simp) (by simp)) e1.keys) e ?_
  simp only [VR]
  exact ⟨a, es, n, us, rfl, .inr ⟨q1, fun q => na (Rl.gmem q), fun q => na (Rl.inled _ q)⟩, q2, q3, VRs.pl (stb_back Rl H1 e1 H) _ _ hp q4⟩
theorem seen_ok (S : Std C) (mf mg mh : Mk) (ov : Ov) (led : Bool) (wd : Wd) (o : Objs) : SC C 20 (C.gval 20) [marksA mf mg mh, overA ov, .bool led, .str wd.n] o (seenA (seen wd mf mg mh ov led)) o := by
  rw [show C.gval 20 = .ref 318 from S.gv 20 (by decide)]
  obtain ⟨l', h⟩ := seen_run mf mg mh ov led wd
  have F := fn_20 S.ok (std_en S) S.K _ _ (o1_ok S (nd := 0)) (orcX_gls _ _) [marksA mf mg mh, overA ov, .bool led, .str wd.n] _ _ _ _ rfl h
  have e : cvs 1000 tokT [marksA mf mg mh, overA ov, .bool led, .str wd.n] = [marksA mf mg mh, overA ov, .bool led, .str wd.n] := by
    show [AV.fdict [n_f_, n_g_, n_h_] [cvA 1000 tokT (mkA mf), cvA 1000 tokT (mkA mg), cvA 1000 tokT (mkA mh)], cvA 1000 tokT (overA ov), .bool led, .str wd.n] = _
    rw [mkA_cv, mkA_cv, mkA_cv]
    rcases ov with _ | ⟨_, _⟩ | ⟨_, _, _ | _⟩ <;> rfl
  refine lift_fz (o' := _) (k := 0) (by rw [e]; exact F.sc.mono (by omega)) rfl ?_
  simp only [plAs, plSeen, Bool.and_self]
end
end
section
noncomputable def rowL (r : Row) : AV := .tup [.str r.1.n, intS r.2]
noncomputable def rowsO (rows : List Row) : AObj := .list (rows.map rowL)
noncomputable def dueL0 (S : AV) (i : Nat) : Loc := [(n_seen_, S), (n_rows_, .ref i)]
noncomputable def dueL (S : AV) (i : Nat) (r : Row) : Loc := dueL0 S i ++ [(n_name_, .str r.1.n), (n_sort_, intS r.2)]
noncomputable def dBody : MSs := bodyM (hdM b__law_due)
theorem dueBody (a b c : Seen) (i : Nat) (r : Row) (o : Objs) : exSs O1 dBody (dueL (seenA (sel a b c)) i r) o = some (flOf (vD (sel a b c) r), dueL (seenA (sel a b c)) i r, o) := by
  rcases r with ⟨_ | _ | _, _ | _⟩
  · rcases a with _ | ⟨_ | _, _ | _⟩ <;> kernel_rfl
  · rcases a with _ | ⟨_ | _, _ | _⟩ <;> kernel_rfl
  · rcases b with _ | ⟨_ | _, _ | _⟩ <;> kernel_rfl
  · rcases b with _ | ⟨_ | _, _ | _⟩ <;> kernel_rfl
  · rcases c with _ | ⟨_ | _, _ | _⟩ <;> kernel_rfl
  · rcases c with _ | ⟨_ | _, _ | _⟩ <;> kernel_rfl
noncomputable def heldO : AObj := .dict [n_f_, n_g_, n_h_] [.tup [.int 0, .bool false], .tup [.int 1, .bool false], .none] none
theorem dueBody2 (a0 a1 a2 a3 a4 : AObj) (r : Row) : exSs O1 dBody (dueL (.ref 5) 4 r) [a0, a1, a2, a3, a4, heldO] = some (flOf (vD heldS r), dueL (.ref 5) 4 r, [a0, a1, a2, a3, a4, heldO]) := by
  rcases r with ⟨_ | _ | _, _ | _⟩ <;> kernel_rfl
theorem due_run {S : AV} {i : Nat} {o : Objs} {sn : Fg → Seen} {rows : List Row} (hb : ∀ r, exSs O1 dBody (dueL S i r) o = some (flOf (vD sn r), dueL S i r, o)) (ho : o[i]? = some (rowsO rows)) (hr : rows.length < 100) : ∃ fl l', exSs O1 b__law_due (dueL0 S i) o = some (fl, l', o) ∧ retOf fl = vdA (firstV (vD sn) rows) := by
  have bd : ∀ (u : Loc) (r : Row), (u = dueL0 S i ∨ ∃ q, u = dueL S i q) → bindT [n_name_, n_sort_] (rowL r) u = some (dueL S i r) := fun u r h => by
    rcases h with rfl | ⟨q, rfl⟩ <;> kernel_rfl
  obtain ⟨l', hf, _⟩ := forGo_first (src := .list i) (tgt := [n_name_, n_sort_]) (o := o) rowL (dueL S i) (vD sn) hb (fun u v => bd _ v (.inr ⟨u, rfl⟩)) rows 0 100 (dueL0 S i) (fun j => by
    rw [Nat.zero_add]
    exact oa_eq ho rfl) (fun v => bd _ v (.inl rfl)) hr
  have h1 : exS O1 (hdM b__law_due) (dueL0 S i) o = some (flOf (firstV (vD sn) rows), l', o) := exS_forS (v := .ref i) (src := .list i) (by kernel_rfl) (oa_eq (x := o[i]?) ho rfl) hf
  cases q : firstV (vD sn) rows with
  | none =>
    rw [q] at h1
    exact ⟨_, _, exSs_cons h1 (exSs_ret (exS_ret ev_c)), rfl⟩
  | some p =>
    rw [q] at h1
    exact ⟨_, _, exSs_ret h1, rfl⟩
section
variable {C : Cfg} {nd : Nat}
theorem due_ok (S : Std C) {sn : Fg → Seen} {i : Nat} {o : Objs} {rows : List Row} (ho : o[i]? = some (rowsO rows)) (hr : rows.length < 100) : SC C 20 (C.gval 21) [seenA sn, .ref i] o (vdA (firstV (vD sn) rows)) o := by
  rw [show C.gval 21 = .ref 325 from S.gv 21 (by decide)]
  have e : ∀ r, vD (sel (sn .f) (sn .g) (sn .h)) r = vD sn r := fun r => by
    rcases r with ⟨_ | _ | _, s⟩ <;> rfl
  obtain ⟨fl, l', h, hv⟩ := due_run (S := seenA sn) (i := i) (o := o) (sn := sn) (fun r => by
    have := dueBody (sn .f) (sn .g) (sn .h) i r o
    rw [e] at this
    exact this) ho hr
  have F := fn_21 S.ok (std_en S) S.K _ _ (o1_ok S (nd := 0)) (orcX_gls _ _) [seenA sn, .ref i] _ _ _ _ rfl h
  rw [hv] at F
  exact F.sc.mono (by omega)
theorem due_held (S : Std C) {a0 a1 a2 a3 : AObj} {rows : List Row} (hr : rows.length < 100) : SC C 20 (C.gval 21) [.ref 5, .ref 4] [a0, a1, a2, a3, rowsO rows, heldO] (vdA (firstV (vD heldS) rows)) [a0, a1, a2, a3, rowsO rows, heldO] := by
  rw [show C.gval 21 = .ref 325 from S.gv 21 (by decide)]
  obtain ⟨fl, l', h, hv⟩ := due_run (S := .ref 5) (i := 4) (o := [a0, a1, a2, a3, rowsO rows, heldO]) (sn := heldS) (fun r => dueBody2 a0 a1 a2 a3 (rowsO rows) r) rfl hr
  have F := fn_21 S.ok (std_en S) S.K _ _ (o1_ok S (nd := 0)) (orcX_gls _ _) [.ref 5, .ref 4] _ _ _ _ rfl h
  rw [hv] at F
  exact F.sc.mono (by omega)
end
end
section
noncomputable abbrev Clo (x : AV) : Prop := ∀ (tok : Nat → AV), cvA 1000 tok x = x
noncomputable def cvD (tok : Nat → AV) : AV → AV
  | .finst c ks xs => .finst c ks xs
  | x => cvA 1000 tok x
noncomputable def cvDs (tok : Nat → AV) : List AV → List AV
  | [] => []
  | x :: r => cvD tok x :: cvDs tok r
noncomputable def finL : List AV → List AV
  | [] => []
  | x :: r => match x with
    | .finst c ks xs => .finst c ks xs :: finL r
    | _ => finL r
theorem cvDs_eq {tok : Nat → AV} : ∀ {xs : List AV}, (∀ x ∈ finL xs, Clo x) → cvs 1000 tok xs = cvDs tok xs
  | [], _ => rfl
  | x :: r, h => by
    show cvA 1000 tok x :: cvs 1000 tok r = cvD tok x :: cvDs tok r
    cases x with
    | finst c ks xs =>
      rw [h (.finst c ks xs) (.head _) tok, cvDs_eq fun y hy => h y (.tail _ hy)]
      rfl
    | _ => exact congrArg (cvA 1000 tok _ :: ·) (cvDs_eq (xs := r) h)
theorem cvs_clo {tok : Nat → AV} : ∀ {xs : List AV}, (∀ x ∈ xs, Clo x) → cvs 1000 tok xs = xs
  | [], _ => rfl
  | x :: r, h => by
    show cvA 1000 tok x :: cvs 1000 tok r = _
    rw [h x (.head _) tok, cvs_clo fun y hy => h y (.tail _ hy)]
noncomputable def cvOV (tok : Nat → AV) (kp : List Nat) : AObj → Option (AObj × List AV)
  | .dict ks xs ep => some (.dict ks (cvDs tok xs) ep, finL xs)
  | .src c => some (.src c, [])
  | .list xs => some (.list xs, xs)
  | .inst c d => oaM (cvO tok kp (.inst c d)) fun ob2 => some (ob2, [])
  | .fix xs => oaM (cvO tok kp (.fix xs)) fun ob2 => some (ob2, [])
noncomputable def cmpV (o : Objs) (tok : Nat → AV) (kp : List Nat) : List Nat → Option (Objs × List AV)
  | [] => some ([], [])
  | i :: r => oaM o[i]? fun ob => obM (cvOV tok kp ob) fun ob2 L1 => obM (cmpV o tok kp r) fun o2 L2 => some (ob2 :: o2, L1 ++ L2)
theorem cvOV_ok {tok : Nat → AV} {kp : List Nat} {ob ob2 : AObj} {L : List AV} (h : cvOV tok kp ob = some (ob2, L)) (hL : ∀ x ∈ L, Clo x) : cvO tok kp ob = some ob2 := by
  cases ob with
  | dict ks xs ep =>
    cases h
    show some (AObj.dict ks (cvs 1000 tok xs) ep) = _
    rw [cvDs_eq hL]
  | src c => cases h; rfl
  | list xs =>
    cases h
    show some (AObj.list (cvs 1000 tok _)) = _
    rw [cvs_clo hL]
  | fix xs => exact oa (x := cvO tok kp (.fix xs)) (k := fun ob2 => some (ob2, [])) h fun _ q h => by cases h; exact q
  | inst c d => exact oa (x := cvO tok kp (.inst c d)) (k := fun ob2 => some (ob2, [])) h fun _ q h => by cases h; exact q
theorem cmpV_ok {o : Objs} {tok : Nat → AV} {kp : List Nat} : ∀ {l : List Nat} {o2 : Objs} {L : List AV}, cmpV o tok kp l = some (o2, L) → (∀ x ∈ L, Clo x) → cmpO o tok kp l = some o2
  | [], o2, L, h, hL => by cases h; rfl
  | i :: r, o2, L, h, hL => by
    refine oa h fun oc h1 h => Mine.ob h fun ob2 L1 h2 h => Mine.ob h fun o3 L2 h3 h => ?_
    cases h
    exact oa_eq (x := o[i]?) h1 (oa_eq (cvOV_ok h2 fun x hx => hL x (List.mem_append_left _ hx)) (oa_eq (cmpV_ok h3 fun x hx => hL x (List.mem_append_right _ hx)) rfl))
noncomputable def locF (tok : Nat → AV) (l : Loc) : List (Nm × Bool) → Loc × List AV
  | [] => ([], [])
  | (x, vb) :: r => match lk l x with
    | none => locF tok l r
    | some v => match vb with
      | true => ((x, v) :: (locF tok l r).1, v :: (locF tok l r).2)
      | false => ((x, cvA 1000 tok v) :: (locF tok l r).1, (locF tok l r).2)
theorem locF_ok {C : Cfg} {tok : Nat → AV} {l : Loc} : ∀ {ns : List (Nm × Bool)}, (∀ x ∈ (locF tok l ns).2, Clo x) → WkL C (mapL (cvA 1000 tok) l) (locF tok l ns).1
  | [], _ => .nil
  | (x, vb) :: r, h => by
    unfold locF at h ⊢
    cases e : lk l x with
    | none =>
      rw [e] at h
      exact locF_ok h
    | some v =>
      rw [e] at h
      cases vb with
      | true =>
        refine .cons (a := v) ?_ .refl (locF_ok fun y hy => h y (.tail _ hy))
        rw [lk_map, e]
        show some (cvA 1000 tok v) = _
        rw [h v (.head _) tok]
      | false => exact .cons (a := cvA 1000 tok v) (by rw [lk_map, e]; rfl) .refl (locF_ok h)
noncomputable abbrev kpOf (n : Nat) (rest : List Nat) : List Nat := List.range n ++ rest
noncomputable def cmpF (n : Nat) (rest : List Nat) (k : Nat) (ns : List (Nm × Bool)) (l : Loc) (o : Objs) : Option (Loc × Objs × List AV) := match o with
  | [] => none
  | s0 :: _ => obM (cmpV o (frz o (kpOf n rest) k) (kpOf n rest) (kpOf n rest).tail) fun t L => some ((locF (frz o (kpOf n rest) k) l ns).1, s0 :: t, L ++ (locF (frz o (kpOf n rest) k) l ns).2)
noncomputable def nxM {γ : Type} (x : Option (FL × Loc × Objs)) (k : Loc → Objs → Option γ) : Option γ := Option.rec (motive := fun _ => Option γ) none (fun p => Prod.rec (motive := fun _ => Option γ) (fun fl q => Prod.rec (motive := fun _ => Option γ) (fun l o => FL.rec (motive := fun _ => Option γ) (k l o) (fun _ => none) fl) q) p) x
theorem nx {γ : Type} {x : Option (FL × Loc × Objs)} {k : Loc → Objs → Option γ} {r : γ} {P : Prop} (h : nxM x k = some r) (c : ∀ l o, x = some (.next, l, o) → k l o = some r → P) : P := by
  rcases x with _ | ⟨_ | v, l, o⟩
  · cases h
  · exact c l o rfl h
  · cases h
noncomputable def stepF (O : Orc) (m : MS) (n : Nat) (rest : List Nat) (k : Nat) (ns : List (Nm × Bool)) (l : Loc) (o : Objs) : Option (Loc × Objs × List AV) := nxM (exS O m l o) fun l1 o1 => cmpF n rest k ns l1 o1
section
variable {C : Cfg} {nd n k : Nat} {rest : List Nat} {ns : List (Nm × Bool)} {l l2 : Loc} {o o2 : Objs} {L : List AV} {xs : List Int}
theorem cmpF_ok (hk : (kpOf n rest).Nodup) (h0 : (kpOf n rest) = 0 :: (kpOf n rest).tail) (h : cmpF n rest k ns l o = some (l2, intL xs :: o2, L)) (hL : ∀ x ∈ L, Clo x) : Cv C n l o l2 (intL xs :: o2) := by
  cases o with
  | nil => exact nsM h
  | cons s0 t0 =>
      have h : obM (cmpV (s0 :: t0) (frz (s0 :: t0) (kpOf n rest) k) (kpOf n rest) (kpOf n rest).tail) (fun t L => some ((locF (frz (s0 :: t0) (kpOf n rest) k) l ns).1, s0 :: t, L ++ (locF (frz (s0 :: t0) (kpOf n rest) k) l ns).2)) = some (l2, intL xs :: o2, L) := h
      refine Mine.ob h fun t L1 h1 h => ?_
      simp only [Option.some.injEq, Prod.mk.injEq, List.cons.injEq] at h
      obtain ⟨rfl, ⟨rfl, rfl⟩, rfl⟩ := h
      have c1 := cmpV_ok h1 fun x hx => hL x (List.mem_append_left _ hx)
      have c2 : cmpO (intL xs :: t0) (frz (intL xs :: t0) (kpOf n rest) k) (kpOf n rest) (kpOf n rest) = some (intL xs :: t) := by
        have : ∀ kp tl : List Nat, kp = 0 :: tl → cmpO (intL xs :: t0) (frz (intL xs :: t0) kp k) kp tl = some t → cmpO (intL xs :: t0) (frz (intL xs :: t0) kp k) kp kp = some (intL xs :: t) := fun kp tl e q => by
          have e2 : cmpO (intL xs :: t0) (frz (intL xs :: t0) kp k) kp kp = cmpO (intL xs :: t0) (frz (intL xs :: t0) kp k) kp (0 :: tl) := by rw [← e]
          rw [e2]
          show oaM (cmpO (intL xs :: t0) (frz (intL xs :: t0) kp k) kp tl) (fun o2 => some (AObj.fix (cvs 1000 (frz (intL xs :: t0) kp k) (xs.map .int)) :: o2)) = _
          rw [q, cvs_ints]
          rfl
        exact this _ _ h0 c1
      exact (Cv.cmp hk c2 rfl).trans (.locs (locF_ok fun x hx => hL x (List.mem_append_right _ hx)))
theorem S1.stepF {O : Orc} {m : MS} (T : Std C) (OK : OrcOk C nd O) (hg : O.gls = gls0) (hk : (kpOf n rest).Nodup) (h0 : (kpOf n rest) = 0 :: (kpOf n rest).tail) (h : stepF O m n rest k ns l o = some (l2, intL xs :: o2, L)) (hL : ∀ x ∈ L, Clo x) : S1 C nd n m l o .next l2 (intL xs :: o2) := by
  exact nx h fun l1 o1 e h => (S1.of T OK hg e).post (cmpF_ok hk h0 h hL)
end
end
section
noncomputable def takeM : Nat → MSs → MSs
  | 0, _ => .nil
  | _, .nil => .nil
  | k + 1, .cons m r => .cons m (takeM k r)
noncomputable def dropM : Nat → MSs → MSs
  | 0, ms => ms
  | _, .nil => .nil
  | k + 1, .cons _ r => dropM k r
noncomputable def stepFs (O : Orc) (ms : MSs) (n : Nat) (rest : List Nat) (k : Nat) (ns : List (Nm × Bool)) (l : Loc) (o : Objs) : Option (Loc × Objs × List AV) := nxM (exSs O ms l o) fun l1 o1 => cmpF n rest k ns l1 o1
section
variable {C : Cfg} {nd n k : Nat} {rest : List Nat} {ns : List (Nm × Bool)} {l l1 l2 : Loc} {o o1 o2 : Objs} {L : List AV} {xs : List Int} {fl : FL}
theorem SM.run {O : Orc} (T : Std C) (OK : OrcOk C nd O) (hg : O.gls = gls0) : ∀ (j : Nat) {ms : MSs} {l l1 : Loc} {o o1 : Objs}, exSs O (takeM j ms) l o = some (.next, l1, o1) → SM C nd n (dropM j ms) l1 o1 fl l2 o2 → SM C nd n ms l o fl l2 o2
  | 0, ms, l, l1, o, o1, h, h2 => by
    have h : exSs O .nil l o = some (.next, l1, o1) := by cases ms <;> exact h
    have h : some (FL.next, l, o) = some (.next, l1, o1) := h
    cases h
    cases ms <;> exact h2
  | j + 1, .nil, l, l1, o, o1, h, h2 => by
    have h : some (FL.next, l, o) = some (.next, l1, o1) := h
    cases h
    exact h2
  | j + 1, .cons m r, l, l1, o, o1, h, h2 => by
    have h : oxM (exS O m l o) (fun l o => exSs O (takeM j r) l o) = some (.next, l1, o1) := h
    exact ox h (fun la oa e h => .cons (.of T OK hg e) (SM.run T OK hg j h h2)) fun v la oa e h => by cases h
theorem SM.runF {O : Orc} (T : Std C) (OK : OrcOk C nd O) (hg : O.gls = gls0) (j : Nat) {ms : MSs} (hk : (kpOf n rest).Nodup) (h0 : (kpOf n rest) = 0 :: (kpOf n rest).tail) (h : stepFs O (takeM j ms) n rest k ns l o = some (l1, intL xs :: o1, L)) (hL : ∀ x ∈ L, Clo x) (h2 : SM C nd n (dropM j ms) l1 (intL xs :: o1) fl l2 o2) : SM C nd n ms l o fl l2 o2 := by
  exact nx h fun l3 o3 e h => SM.run T OK hg j e (h2.pre (cmpF_ok hk h0 h hL))
inductive WkLs (C : Cfg) : List AV → List AV → Prop
  | nil : WkLs C [] []
  | top {x : AV} {xs ys : List AV} : WkLs C xs ys → WkLs C (x :: xs) (.top :: ys)
  | same {x : AV} {xs ys : List AV} : WkLs C xs ys → WkLs C (x :: xs) (x :: ys)
theorem WkLs.vr {X γ : List Addr} {led : Led} {xs ys : List AV} (w : WkLs C xs ys) : ∀ {vs : List Value}, VRs C X γ led xs vs → VRs C X γ led ys vs := by
  induction w with
  | nil => intro vs h; exact h
  | top _ ih =>
    intro vs h
    simp only [VRs] at h ⊢
    obtain ⟨v, vs', rfl, _, h2⟩ := h
    exact ⟨v, vs', rfl, by simp only [VR], ih h2⟩
  | same _ ih =>
    intro vs h
    simp only [VRs] at h ⊢
    obtain ⟨v, vs', rfl, h1, h2⟩ := h
    exact ⟨v, vs', rfl, h1, ih h2⟩
theorem Cv.dict {i : Nat} {ks : List Nm} {ys zs : List AV} {ep : Option Nat} (h : o[i]? = some (.dict ks ys ep)) (w : WkLs C ys zs) (e : o.set i (.dict ks zs ep) = o2) : Cv C n l o l o2 := by
  subst e
  intro env X γ₀ led₀ γ led hp hn e D
  refine ⟨γ, e, D.hold, ⟨by simp [D.rel.len], D.rel.nodup, D.rel.apart, D.rel.inled, fun k ob a h1 h2 => ?_⟩, D.loc, D.cel⟩
  by_cases hk : k = i
  · subst hk
    have hl := (List.getElem?_eq_some_iff.mp h).1
    rw [List.getElem?_set_self hl] at h1
    cases h1
    obtain ⟨es, m, vs, q1, q2, q3, q4, q5⟩ := D.rel.has _ _ _ h h2
    exact ⟨es, m, vs, q1, q2, q3, q4, w.vr q5⟩
  · rw [List.getElem?_set_ne (Ne.symm hk)] at h1
    exact D.rel.has _ _ _ h1 h2
end
noncomputable def bk : List Nm := [n_error_, n_runtime_Error_, n_sync_Mutex_, n_sync_WaitGroup_]
noncomputable abbrev O6 : Orc := orcX tkB 6
noncomputable def bnames : List (Nm × Bool) := [(n_source_, false), (n_marks_, true), (n_is_led_, false), (n_world_, false), (n_over_, true)]
noncomputable def getD2 (r : Option (Loc × Objs × List AV)) : List AV := match r with
  | some (_, o, _) => match (o[2]? : Option AObj) with
    | some (.dict _ xs _) => xs
    | _ => []
  | none => []
noncomputable def kr : List AV := getD2 (stepFs O6 (takeM 1 b__law_built) 2 [16] 3 bnames [] [.list [], .src []])
theorem kr_4 : ∃ a b c d, kr = [a, b, c, d] := by
  have h : kr.length = 4 := by kernel_rfl
  match kr, h with
  | [a, b, c, d], _ => exact ⟨a, b, c, d, rfl⟩
noncomputable def bL0 (mf mg mh : Mk) (led : Bool) : Loc := [(n_source_, .ref 1), (n_marks_, marksA mf mg mh), (n_is_led_, .bool led)]
noncomputable def bL1 (mf mg mh : Mk) (led : Bool) : Loc := bL0 mf mg mh led ++ [(n_world_, WF (.ref 2)), (n_over_, .none)]
theorem built1 (mf mg mh : Mk) (led : Bool) (scr : AObj) (c : List (Nat × Nat)) : stepFs O6 (takeM 1 b__law_built) 2 [16] 3 bnames (bL0 mf mg mh led) [scr, .src c] = some (bL1 mf mg mh led, [scr, .src c, .dict bk kr none], [marksA mf mg mh, .none]) := by kernel_rfl
noncomputable def mkL3 (b : Bool) : List Mk := [none, some (b, false), some (b, true)]
theorem mk_ex (m : Mk) : ∃ b, m ∈ mkL3 b := by
  rcases m with _ | ⟨b, _ | _⟩
  · exact ⟨false, .head _⟩
  · exact ⟨b, .tail _ (.head _)⟩
  · exact ⟨b, .tail _ (.tail _ (.head _))⟩
theorem built2 (mf mg mh : Mk) (led : Bool) (scr : AObj) (c : List (Nat × Nat)) : stepFs O6 (takeM 2 (dropM 1 b__law_built)) 2 [2] 4 bnames (bL1 mf mg mh led) [scr, .src c, .dict bk [.top, .top, .top, .top] none] = some (bL1 mf mg mh led, [scr, .src c, .dict (bk ++ [n_m_N_]) [.top, .top, .top, .top, rowN (pm mf) (pm mg) (pm mh)] none], [marksA mf mg mh, .none]) := by
  obtain ⟨b1, h1⟩ := mk_ex mf
  obtain ⟨b2, h2⟩ := mk_ex mg
  obtain ⟨b3, h3⟩ := mk_ex mh
  exact mapX_eq (f := fun p : Mk × Mk × Mk => stepFs O6 (takeM 2 (dropM 1 b__law_built)) 2 [2] 4 bnames (bL1 p.1 p.2.1 p.2.2 led) [scr, .src c, .dict bk [.top, .top, .top, .top] none]) (g := fun p => some (bL1 p.1 p.2.1 p.2.2 led, [scr, .src c, .dict (bk ++ [n_m_N_]) [.top, .top, .top, .top, rowN (pm p.1) (pm p.2.1) (pm p.2.2)] none], [marksA p.1 p.2.1 p.2.2, .none])) (l := prodL (mkL3 b1) (prodL (mkL3 b2) (mkL3 b3))) (by kernel_rfl) (mf, mg, mh) (prod_mem h1 (prod_mem h2 h3))
noncomputable def fgOf (x : Nat) : Fg := match x with
  | 0 => .f
  | 1 => .g
  | _ => .h
noncomputable def ovD (w x p s : Nat) : List (Nat × Nat) := match w with
  | 0 => [(4, 0), (3, x), (2, p)]
  | 1 => [(4, 1), (3, x), (2, p), (2, s)]
  | w => [(4, w)]
noncomputable def ovOf (w x p s : Nat) : Ov := match w with
  | 0 => .fld (fgOf x) (Nat.beq p 0)
  | 1 => .mth (fgOf x) (Nat.beq p 0) (Nat.beq s 1)
  | _ => .no
noncomputable def bL3 (o : Ov) : Loc := [(n_world_, WF (.ref 2)), (n_over_, overA o)]
noncomputable def namedH (mf mg mh : Mk) (led : Bool) (o : Ov) : AObj := .dict (bk ++ [n_m_N_, n_m_H_]) [.top, .top, .top, .top, rowN (pm mf) (pm mg) (pm mh), rowH led (oaOf o)] none
theorem built3 (mf mg mh : Mk) (led : Bool) (scr : AObj) (c : List (Nat × Nat)) (w x p s : Nat) (hw : w < 4) (hx : x < 3) (hp : p < 2) (hs : s < 2) : stepFs O6 (takeM 4 (dropM 3 b__law_built)) 2 [2] 4 [(n_world_, false), (n_over_, true)] (bL1 mf mg mh led) [scr, .src (ovD w x p s ++ c), .dict (bk ++ [n_m_N_]) [.top, .top, .top, .top, rowN (pm mf) (pm mg) (pm mh)] none] = some (bL3 (ovOf w x p s), [scr, .src c, namedH mf mg mh led (ovOf w x p s)], [rowN (pm mf) (pm mg) (pm mh), overA (ovOf w x p s)]) := by
  exact mapX_eq (f := fun z : Nat × Nat × Nat × Nat × Bool => stepFs O6 (takeM 4 (dropM 3 b__law_built)) 2 [2] 4 [(n_world_, false), (n_over_, true)] (bL1 mf mg mh z.2.2.2.2) [scr, .src (ovD z.1 z.2.1 z.2.2.1 z.2.2.2.1 ++ c), .dict (bk ++ [n_m_N_]) [.top, .top, .top, .top, rowN (pm mf) (pm mg) (pm mh)] none]) (g := fun z => some (bL3 (ovOf z.1 z.2.1 z.2.2.1 z.2.2.2.1), [scr, .src c, namedH mf mg mh z.2.2.2.2 (ovOf z.1 z.2.1 z.2.2.1 z.2.2.2.1)], [rowN (pm mf) (pm mg) (pm mh), overA (ovOf z.1 z.2.1 z.2.2.1 z.2.2.2.1)])) (l := prodL (natL 4) (prodL (natL 3) (prodL (natL 2) (prodL (natL 2) boolL)))) (by kernel_rfl) (w, x, p, s, led) (prod_mem (nat_mem hw) (prod_mem (nat_mem hx) (prod_mem (nat_mem hp) (prod_mem (nat_mem hs) (bool_mem led)))))
end
section
inductive CloL : List AV → Prop
  | nil : CloL []
  | cons {x : AV} {r : List AV} : Clo x → CloL r → CloL (x :: r)
theorem CloL.all {L : List AV} (h : CloL L) : ∀ x ∈ L, Clo x := by
  induction h with
  | nil => intro x hx; cases hx
  | cons h1 _ ih =>
    intro x hx
    rcases List.mem_cons.mp hx with rfl | hx
    · exact h1
    · exact ih x hx
theorem CloL.app {L M : List AV} (h : CloL L) (k : CloL M) : CloL (L ++ M) := by
  induction h with
  | nil => exact k
  | cons h1 _ ih => exact .cons h1 ih
theorem marks_clo (mf mg mh : Mk) : Clo (marksA mf mg mh) := fun tok => by
  show AV.fdict [n_f_, n_g_, n_h_] [cvA 1000 tok (mkA mf), cvA 1000 tok (mkA mg), cvA 1000 tok (mkA mh)] = _
  rw [mkA_cv, mkA_cv, mkA_cv]
  rfl
theorem over_clo (o : Ov) : Clo (overA o) := fun tok => by
  rcases o with _ | ⟨_, _⟩ | ⟨_, _, _ | _⟩ <;> rfl
theorem rowN_clo (mf mg mh : Mk) : Clo (rowN (pm mf) (pm mg) (pm mh)) := fun tok => by
  exact mapX_eq (f := fun p : Mk × Mk × Mk => cvA 1000 tok (rowN (pm p.1) (pm p.2.1) (pm p.2.2))) (g := fun p => rowN (pm p.1) (pm p.2.1) (pm p.2.2)) (l := prodL mkL (prodL mkL mkL)) (by kernel_rfl) (mf, mg, mh) (prod_mem (mk_mem mf) (prod_mem (mk_mem mg) (mk_mem mh)))
theorem rowH_clo (led : Bool) (o : Ov) : Clo (rowH led (oaOf o)) := fun tok => by
  exact mapX_eq (f := fun p : Bool × Ov => cvA 1000 tok (rowH p.1 (oaOf p.2))) (g := fun p => rowH p.1 (oaOf p.2)) (l := prodL boolL ovL) (by kernel_rfl) (led, o) (prod_mem (bool_mem led) (ov_mem o))
theorem ask_clo (r : Row) : Clo (askA r) := fun tok => by
  rcases r with ⟨x, s⟩
  cases s <;> rfl
theorem asks_clo {tok : Nat → AV} : ∀ rows : List Row, cvs 1000 tok (rows.map askA) = rows.map askA
  | [] => rfl
  | r :: t => by
    show cvA 1000 tok (askA r) :: cvs 1000 tok (t.map askA) = _
    rw [ask_clo, asks_clo t]
    rfl
theorem want_clo (rows : List Row) : Clo (wantA rows) := fun tok => by
  show AV.tup [.str n_interface_, .tup (cvs 1000 tok (rows.map askA))] = _
  rw [asks_clo]
  rfl
theorem rowA_clo {nm : Nm} {u : AV} (h : Clo u) : Clo (rowA nm u [] []) := fun tok => by
  show AV.finst 32 rkeys [.str nm, .str n_m_, cvA 1000 tok u, .fdict [] []] = _
  rw [h]
  rfl
theorem rowL_clo (rows : List Row) : CloL (rows.map rowL) := by
  induction rows with
  | nil => exact .nil
  | cons r t ih => exact .cons (fun tok => by rcases r with ⟨x, _ | _⟩ <;> rfl) ih
theorem vd_clo (v : Vd) : Clo (vdA v) := fun tok => by
  rcases v with _ | ⟨x, y⟩ <;> rfl
section
variable {C : Cfg} {nd : Nat}
theorem o6_ok (S : Std C) : OrcOk C 32 O6 := orcX_ok S (tkB_ok S) 6
theorem built_ok (S : Std C) (xs : List Int) (mf mg mh : Mk) (led : Bool) (c : List (Nat × Nat)) (w x p s : Nat) (hw : w < 4) (hx : x < 3) (hp : p < 2) (hs : s < 2) :
    SC C 80 (C.gval 19) [.ref 1, marksA mf mg mh, .bool led] [intL xs, .src (ovD w x p s ++ c)] (.tup [WF (.ref 2), overA (ovOf w x p s)]) [intL xs, .src c, namedH mf mg mh led (ovOf w x p s)] := by
  rw [show C.gval 19 = .ref 311 from S.gv 19 (by decide)]
  have F := hand_19 S 32 [.ref 1, marksA mf mg mh, .bool led] [intL xs, .src (ovD w x p s ++ c)]
  obtain ⟨a, b, d, e, hk⟩ := kr_4
  have h4 : SM C 32 2 (dropM 4 (dropM 3 b__law_built)) (bL3 (ovOf w x p s)) [intL xs, .src c, namedH mf mg mh led (ovOf w x p s)] (.ret (.tup [WF (.ref 2), overA (ovOf w x p s)])) (bL3 (ovOf w x p s)) [intL xs, .src c, namedH mf mg mh led (ovOf w x p s)] :=
    SM.of S (o6_ok S) (orcX_gls _ _) (exSs_ret (exS_ret (ev_tup (evs_cons (ev_lv (by kernel_rfl)) (evs_cons (ev_lv (by kernel_rfl)) evs_nil)))))
  have h3 : SM C 32 2 (dropM 3 b__law_built) (bL1 mf mg mh led) _ _ _ _ := SM.runF S (o6_ok S) (orcX_gls _ _) 4 (by decide) rfl (built3 mf mg mh led (intL xs) c w x p s hw hx hp hs) (CloL.all (.cons (rowN_clo _ _ _) (.cons (over_clo _) .nil))) h4
  have h2 : SM C 32 2 (dropM 1 b__law_built) (bL1 mf mg mh led) _ _ _ _ := SM.runF S (o6_ok S) (orcX_gls _ _) 2 (by decide) rfl (built2 mf mg mh led (intL xs) _) (CloL.all (.cons (marks_clo _ _ _) (.cons (fun _ => rfl) .nil))) h3
  have h1 : SM C 32 2 b__law_built (bL0 mf mg mh led) _ _ _ _ := SM.runF S (o6_ok S) (orcX_gls _ _) 1 (by decide) rfl (built1 mf mg mh led (intL xs) _) (CloL.all (.cons (marks_clo _ _ _) (.cons (fun _ => rfl) .nil))) (h2.pre (Cv.dict (i := 2) (ys := kr) (zs := [.top, .top, .top, .top]) rfl (by rw [hk]; exact .top (.top (.top (.top .nil)))) rfl))
  exact (F _ _ _ rfl h1).sc.mono (by omega)
end
end
section
inductive Lay where
  | base
  | w (u : List Row)
  | v
  | wv (u : List Row)
  | vw (u : List Row)
noncomputable def rowV : AV := rowA n_m_V_ heldA [] []
noncomputable def rowW (u : List Row) : AV := rowA n_m_W_ (wantA u) [] []
noncomputable def Lay.ks : Lay → List Nm
  | .base => []
  | .w _ => [n_m_W_]
  | .v => [n_m_V_]
  | .wv _ => [n_m_W_, n_m_V_]
  | .vw _ => [n_m_V_, n_m_W_]
noncomputable def Lay.xs : Lay → List AV
  | .base => []
  | .w u => [rowW u]
  | .v => [rowV]
  | .wv u => [rowW u, rowV]
  | .vw u => [rowV, rowW u]
noncomputable def Lay.setW : Lay → List Row → Lay
  | .base, u => .w u
  | .w _, u => .w u
  | .v, u => .vw u
  | .wv _, u => .wv u
  | .vw _, u => .vw u
noncomputable def Lay.setV : Lay → Lay
  | .base => .v
  | .w u => .wv u
  | .v => .v
  | .wv u => .wv u
  | .vw u => .vw u
noncomputable def Lay.noW : Lay → List AV
  | .base => []
  | .w _ => []
  | .v => [rowV]
  | .wv _ => [rowV]
  | .vw _ => [rowV]
noncomputable def Lay.noV : Lay → List AV
  | .base => []
  | .w u => [rowW u]
  | .v => []
  | .wv u => [rowW u]
  | .vw u => [rowW u]
noncomputable def namedK (lay : Lay) : List Nm := bk ++ [n_m_N_, n_m_H_] ++ lay.ks
noncomputable def namedX (mf mg mh : Mk) (led : Bool) (o : Ov) (lay : Lay) : List AV := [.top, .top, .top, .top, rowN (pm mf) (pm mg) (pm mh), rowH led (oaOf o)] ++ lay.xs
noncomputable def namedO (mf mg mh : Mk) (led : Bool) (o : Ov) (lay : Lay) : AObj := .dict (namedK lay) (namedX mf mg mh led o lay) none
noncomputable def typesO : AObj := .dict [n_number_, n_number_pointer_, n_holder_, n_holder_pointer_] [numA, ptrA numA, holA, ptrA holA] none
theorem rowV_clo : Clo rowV := rowA_clo (want_clo _)
theorem rowW_clo (u : List Row) : Clo (rowW u) := rowA_clo (want_clo u)
theorem lay_clo (lay : Lay) : CloL lay.xs := by
  cases lay with
  | base => exact .nil
  | w u => exact .cons (rowW_clo u) .nil
  | v => exact .cons rowV_clo .nil
  | wv u => exact .cons (rowW_clo u) (.cons rowV_clo .nil)
  | vw u => exact .cons rowV_clo (.cons (rowW_clo u) .nil)
theorem noW_clo (lay : Lay) : CloL lay.noW := by
  cases lay <;> first | exact .nil | exact .cons rowV_clo .nil
theorem noV_clo (lay : Lay) : CloL lay.noV := by
  cases lay <;> first | exact .nil | exact .cons (rowW_clo _) .nil
noncomputable def optR (x : Fg) : Option Bool → List Row
  | none => []
  | some s => [(x, s)]
noncomputable def rowsOf (a b c : Option Bool) : List Row := optR .f a ++ optR .g b ++ optR .h c
noncomputable def askD (a s : Nat) : List (Nat × Nat) := match a with
  | 0 => [(2, 0), (3, s)]
  | a + 1 => [(2, a + 1)]
noncomputable def askOf (a s : Nat) : Option Bool := match a with
  | 0 => some (Nat.beq s 2)
  | _ + 1 => none
noncomputable def askL0 : Loc := [(n_source_, .ref 1), (n_world_, WF (.ref 2))]
noncomputable def askL (rows : List Row) : Loc := askL0 ++ [(n_rows_, .ref 4), (n_wanted_, wantA rows)]
noncomputable def askN : List (Nm × Bool) := [(n_source_, false), (n_world_, false), (n_rows_, false), (n_wanted_, true)]
noncomputable def asksL (s : Nat) : List (Nat × Nat) := [(0, 0), (0, 1), (0, 2), (1, s)]
theorem asks_mem {a s : Nat} (h1 : a < 2) (h2 : s < 3) : (a, s) ∈ asksL s := by
  rcases lt2 h1 with rfl | rfl
  · rcases lt3 h2 with rfl | rfl | rfl
    · exact .head _
    · exact .tail _ (.head _)
    · exact .tail _ (.tail _ (.head _))
  · exact .tail _ (.tail _ (.tail _ (.head _)))
noncomputable def layL (u : List Row) : List Lay := [.base, .w u, .v, .wv u, .vw u]
theorem lay_ex (lay : Lay) : ∃ u, lay ∈ layL u := by
  cases lay with
  | base => exact ⟨[], .head _⟩
  | w u => exact ⟨u, .tail _ (.head _)⟩
  | v => exact ⟨[], .tail _ (.tail _ (.head _))⟩
  | wv u => exact ⟨u, .tail _ (.tail _ (.tail _ (.head _)))⟩
  | vw u => exact ⟨u, .tail _ (.tail _ (.tail _ (.tail _ (.head _))))⟩
theorem rowH_is (led : Bool) (ov : Ov) : ∃ u ks xs, rowH led (oaOf ov) = rowA n_m_H_ u ks xs := by
  cases led <;> rcases ov with _ | ⟨_ | _ | _, _ | _⟩ | ⟨_ | _ | _, _, _⟩ <;> exact ⟨_, _, _, rfl⟩
theorem asked1 (mf mg mh : Mk) (led : Bool) (ov : Ov) (lay : Lay) (scr : AObj) (c : List (Nat × Nat)) (af sf ag sg ah sh : Nat) (h1 : af < 2) (h2 : sf < 3) (h3 : ag < 2) (h4 : sg < 3) (h5 : ah < 2) (h6 : sh < 3) :
    stepFs O6 (takeM 2 b__law_asked) 4 [4] 4 askN askL0 [scr, .src (askD af sf ++ (askD ag sg ++ (askD ah sh ++ c))), namedO mf mg mh led ov lay, typesO] = some (askL (rowsOf (askOf af sf) (askOf ag sg) (askOf ah sh)), [scr, .src c, namedO mf mg mh led ov lay, typesO, rowsO (rowsOf (askOf af sf) (askOf ag sg) (askOf ah sh))], [rowN (pm mf) (pm mg) (pm mh), rowH led (oaOf ov)] ++ lay.xs ++ (rowsOf (askOf af sf) (askOf ag sg) (askOf ah sh)).map rowL ++ [wantA (rowsOf (askOf af sf) (askOf ag sg) (askOf ah sh))]) := by
  obtain ⟨u, ks, xs, hu⟩ := rowH_is led ov
  obtain ⟨v, hl⟩ := lay_ex lay
  unfold namedO namedX
  rw [hu]
  generalize pm mf = a
  generalize pm mg = b
  generalize pm mh = d
  exact mapX_eq (f := fun z : (Nat × Nat) × (Nat × Nat) × (Nat × Nat) × Lay => stepFs O6 (takeM 2 b__law_asked) 4 [4] 4 askN askL0 [scr, .src (askD (z.1.1) (z.1.2) ++ (askD (z.2.1.1) (z.2.1.2) ++ (askD (z.2.2.1.1) (z.2.2.1.2) ++ c))), AObj.dict (namedK (z.2.2.2)) ([.top, .top, .top, .top, rowN a b d, rowA n_m_H_ u ks xs] ++ (z.2.2.2).xs) none, typesO])
    (g := fun z => some (askL (rowsOf (askOf (z.1.1) (z.1.2)) (askOf (z.2.1.1) (z.2.1.2)) (askOf (z.2.2.1.1) (z.2.2.1.2))), [scr, .src c, AObj.dict (namedK (z.2.2.2)) ([.top, .top, .top, .top, rowN a b d, rowA n_m_H_ u ks xs] ++ (z.2.2.2).xs) none, typesO, rowsO (rowsOf (askOf (z.1.1) (z.1.2)) (askOf (z.2.1.1) (z.2.1.2)) (askOf (z.2.2.1.1) (z.2.2.1.2)))], [rowN a b d, rowA n_m_H_ u ks xs] ++ (z.2.2.2).xs ++ (rowsOf (askOf (z.1.1) (z.1.2)) (askOf (z.2.1.1) (z.2.1.2)) (askOf (z.2.2.1.1) (z.2.2.1.2))).map rowL ++ [wantA (rowsOf (askOf (z.1.1) (z.1.2)) (askOf (z.2.1.1) (z.2.1.2)) (askOf (z.2.2.1.1) (z.2.2.1.2)))]))
    (l := prodL (asksL sf) (prodL (asksL sg) (prodL (asksL sh) (layL v)))) (by kernel_rfl) ((af, sf), (ag, sg), (ah, sh), lay) (prod_mem (asks_mem h1 h2) (prod_mem (asks_mem h3 h4) (prod_mem (asks_mem h5 h6) hl)))
end
section
theorem asked2 (rows : List Row) (scr named types : AObj) (c : List (Nat × Nat)) : exSs O6 (dropM 2 b__law_asked) (askL rows) [scr, .src ((2,0)::c), named, types, rowsO rows] = some (.ret (.tup [wantA rows, .ref 4]), askL rows, [scr, .src c, named, types, rowsO rows]) := by kernel_rfl
noncomputable def obL : List (Option Bool) := [none, some false, some true]
theorem ob_mem (a : Option Bool) : a ∈ obL := by
  rcases a with _ | _ | _
  · exact .head _
  · exact .tail _ (.head _)
  · exact .tail _ (.tail _ (.head _))
theorem asked3 (mf mg mh : Mk) (led : Bool) (ov : Ov) (lay : Lay) (scr : AObj) (c : List (Nat × Nat)) (a b d : Option Bool) :
    stepFs O6 (takeM 2 (dropM 2 b__law_asked)) 4 [4] 4 [(n_rows_, false)] (askL (rowsOf a b d)) [scr, .src ((2,1)::c), namedO mf mg mh led ov lay, typesO, rowsO (rowsOf a b d)] = some ([(n_rows_, .ref 4)], [scr, .src c, namedO mf mg mh led ov (lay.setW (rowsOf a b d)), typesO, rowsO (rowsOf a b d)], [rowN (pm mf) (pm mg) (pm mh), rowH led (oaOf ov)] ++ lay.noW ++ (rowsOf a b d).map rowL) := by
  obtain ⟨u, ks, xs, hu⟩ := rowH_is led ov
  obtain ⟨v, hl⟩ := lay_ex lay
  unfold namedO namedX
  rw [hu]
  generalize pm mf = pa
  generalize pm mg = pb
  generalize pm mh = pd
  exact mapX_eq (f := fun z : Option Bool × Option Bool × Option Bool × Lay => stepFs O6 (takeM 2 (dropM 2 b__law_asked)) 4 [4] 4 [(n_rows_, false)] (askL (rowsOf (z.1) (z.2.1) (z.2.2.1))) [scr, .src ((2,1)::c), AObj.dict (namedK (z.2.2.2)) ([.top, .top, .top, .top, rowN pa pb pd, rowA n_m_H_ u ks xs] ++ (z.2.2.2).xs) none, typesO, rowsO (rowsOf (z.1) (z.2.1) (z.2.2.1))])
    (g := fun z => some ([(n_rows_, .ref 4)], [scr, .src c, AObj.dict (namedK ((z.2.2.2).setW (rowsOf (z.1) (z.2.1) (z.2.2.1)))) ([.top, .top, .top, .top, rowN pa pb pd, rowA n_m_H_ u ks xs] ++ ((z.2.2.2).setW (rowsOf (z.1) (z.2.1) (z.2.2.1))).xs) none, typesO, rowsO (rowsOf (z.1) (z.2.1) (z.2.2.1))], [rowN pa pb pd, rowA n_m_H_ u ks xs] ++ (z.2.2.2).noW ++ (rowsOf (z.1) (z.2.1) (z.2.2.1)).map rowL))
    (l := prodL obL (prodL obL (prodL obL (layL v)))) (by kernel_rfl) (a, b, d, lay) (prod_mem (ob_mem a) (prod_mem (ob_mem b) (prod_mem (ob_mem d) hl)))
noncomputable def wAof (w : Nat) (rows : List Row) : AV := match w with
  | 0 => wantA rows
  | _ => wedA
noncomputable def layOf (w : Nat) (lay : Lay) (rows : List Row) : Lay := match w with
  | 0 => lay
  | _ => lay.setW rows
theorem named_clo (mf mg mh : Mk) (led : Bool) (ov : Ov) {L : List AV} (h : CloL L) : CloL ([rowN (pm mf) (pm mg) (pm mh), rowH led (oaOf ov)] ++ L) := .cons (rowN_clo _ _ _) (.cons (rowH_clo _ _) h)
section
variable {C : Cfg} {nd : Nat}
theorem hand_22 (T : Std C) : HandOk C 330 p__law_asked [] b__law_asked := by
  obtain ⟨fd, h1, h2, h3, h4⟩ := fd_22 C.w
  exact hand_3 T h1 h2 h3 fun vs hl => by obtain ⟨a, b, rfl⟩ := len2 hl; exact h4 a b
theorem asked_ok (S : Std C) (xs : List Int) (mf mg mh : Mk) (led : Bool) (ov : Ov) (lay : Lay) (c : List (Nat × Nat)) (af sf ag sg ah sh w : Nat) (h1 : af < 2) (h2 : sf < 3) (h3 : ag < 2) (h4 : sg < 3) (h5 : ah < 2) (h6 : sh < 3) (hw : w < 2) (rows : List Row) (hr : rows = rowsOf (askOf af sf) (askOf ag sg) (askOf ah sh)) :
    SC C 80 (C.gval 22) [.ref 1, WF (.ref 2)] [intL xs, .src (askD af sf ++ (askD ag sg ++ (askD ah sh ++ ((2, w) :: c)))), namedO mf mg mh led ov lay, typesO] (.tup [wAof w rows, .ref 4]) [intL xs, .src c, namedO mf mg mh led ov (layOf w lay rows), typesO, rowsO rows] := by
  subst hr
  rw [show C.gval 22 = .ref 330 from S.gv 22 (by decide)]
  have F := hand_22 S 32 [.ref 1, WF (.ref 2)] [intL xs, .src (askD af sf ++ (askD ag sg ++ (askD ah sh ++ ((2, w) :: c)))), namedO mf mg mh led ov lay, typesO]
  have K : ∀ {fl l' o'}, SM C 32 4 (dropM 2 b__law_asked) (askL (rowsOf (askOf af sf) (askOf ag sg) (askOf ah sh))) [intL xs, .src ((2, w) :: c), namedO mf mg mh led ov lay, typesO, rowsO (rowsOf (askOf af sf) (askOf ag sg) (askOf ah sh))] fl l' o' → SM C 32 4 b__law_asked askL0 _ fl l' o' := fun h =>
    SM.runF S (o6_ok S) (orcX_gls _ _) 2 (by decide) rfl (asked1 mf mg mh led ov lay (intL xs) _ af sf ag sg ah sh h1 h2 h3 h4 h5 h6) (CloL.all (((named_clo mf mg mh led ov (lay_clo lay)).app (rowL_clo _)).app (.cons (want_clo _) .nil))) h
  rcases lt2 hw with rfl | rfl
  · exact (F _ _ _ rfl (K (SM.of S (o6_ok S) (orcX_gls _ _) (asked2 _ _ _ _ _)))).sc.mono (by omega)
  · have h : SM C 32 4 (dropM 2 b__law_asked) (askL (rowsOf (askOf af sf) (askOf ag sg) (askOf ah sh))) [intL xs, .src ((2, 1) :: c), namedO mf mg mh led ov lay, typesO, rowsO (rowsOf (askOf af sf) (askOf ag sg) (askOf ah sh))] (.ret (.tup [wedA, .ref 4])) [(n_rows_, .ref 4)] [intL xs, .src c, namedO mf mg mh led ov (lay.setW (rowsOf (askOf af sf) (askOf ag sg) (askOf ah sh))), typesO, rowsO (rowsOf (askOf af sf) (askOf ag sg) (askOf ah sh))] :=
      SM.runF S (o6_ok S) (orcX_gls _ _) 2 (by decide) rfl (asked3 mf mg mh led ov lay (intL xs) c _ _ _) (CloL.all ((named_clo mf mg mh led ov (noW_clo lay)).app (rowL_clo _))) (SM.of S (o6_ok S) (orcX_gls _ _) (fl := .ret (.tup [wedA, .ref 4])) (by kernel_rfl))
    exact (F _ _ _ rfl (K h)).sc.mono (by omega)
end
end
section
open Classical in
noncomputable def ov1 (i0 : Nat) (as0 : List AV) (o0 : Objs) (r0 : AV) (o1 : Objs) (b : Base) : Base := fun i as o => if i = i0 ∧ as = as0 ∧ o = o0 then some (r0, o1) else b i as o
open Classical in
noncomputable def ovP (i0 : Nat) (P : List AV → Prop) (o0 : Objs) (r0 : AV) (b : Base) : Base := fun i as o => if i = i0 ∧ P as ∧ o = o0 then some (r0, o0) else b i as o
section
variable {C : Cfg} {nd n : Nat} {i0 i : Nat} {as0 as : List AV} {o0 o o1 o' : Objs} {r0 r : AV} {b : Base} {P : List AV → Prop}
theorem ov1_ok (h : SC C nd (C.gval i0) as0 o0 r0 o1) (k : KeepsF C (C.gval i0)) (B : BaseOk C nd b) : BaseOk C nd (ov1 i0 as0 o0 r0 o1 b) := by
  intro i as o r o' e
  unfold ov1 at e
  split at e
  · rename_i q
    obtain ⟨rfl, rfl, rfl⟩ := q
    cases e
    exact ⟨h, k⟩
  · exact B _ _ _ _ _ e
theorem ovP_ok (h : ∀ as, P as → SC C nd (C.gval i0) as o0 r0 o0) (k : KeepsF C (C.gval i0)) (B : BaseOk C nd b) : BaseOk C nd (ovP i0 P o0 r0 b) := by
  intro i as o r o' e
  unfold ovP at e
  split at e
  · rename_i q
    obtain ⟨rfl, q, rfl⟩ := q
    cases e
    exact ⟨h _ q, k⟩
  · exact B _ _ _ _ _ e
theorem ov1_hit : ov1 i0 as0 o0 r0 o1 b i0 as0 o0 = some (r0, o1) := if_pos ⟨rfl, rfl, rfl⟩
theorem ov1_miss (h : Nat.beq i i0 = false) : ov1 i0 as0 o0 r0 o1 b i as o = b i as o := if_neg fun q => by
  rw [q.1, Nat.beq_refl] at h
  cases h
theorem ovP_hit (h : P as) : ovP i0 P o0 r0 b i0 as o0 = some (r0, o0) := if_pos ⟨rfl, h, rfl⟩
theorem ovP_miss (h : Nat.beq i i0 = false) : ovP i0 P o0 r0 b i as o = b i as o := if_neg fun q => by
  rw [q.1, Nat.beq_refl] at h
  cases h
theorem orc_hit (h : b i as o = some (r, o')) : (orcX b n).call i as o = some (r, o') := by
  cases n with
  | zero => exact oe_eq h rfl
  | succ n => exact oe_eq h rfl
theorem orc_gl {v : AV} {x : Nm} {l : Loc} {j : Nat} (h : gls0[j]? = some (x, v)) : (ev (orcX b n) (.gl j)).1 l o = some (v, o) := by
  have : (orcX b n).gls[j]? = some (x, v) := by rw [orcX_gls]; exact h
  exact show oaM (orcX b n).gls[j]? (fun p => some (p.2, o)) = _ from oa_eq this rfl
end
section
variable {O : Orc} {l l1 : Loc} {o o1 o2 : Objs} {R : Option (FL × Loc × Objs)}
theorem exS_ifS {e : ME} {a b : MSs} {c : Bool} (h : (ev O e).2 l o = some (c, o1)) (h2 : (match c with | true => exSs O a l o1 | false => exSs O b l o1) = R) : exS O (.ifS e a b) l o = R :=
  show obM ((ev O e).2 l o) (fun c o => omM c (exSs O a l o) (exSs O b l o)) = _ from ob_eq h (by cases c <;> exact h2)
theorem ev_or2 {a b : ME} {c : Bool} (h1 : (ev O a).2 l o = some (false, o1)) (h2 : (ev O b).2 l o1 = some (c, o2)) : (ev O (.or (.cons a (.cons b .nil)))).2 l o = some (c, o2) :=
  show obM ((ev O a).2 l o) (fun c o => omM c (some (true, o)) ((evO O (.cons b .nil)).2 l o)) = _ from ob_eq h1 h2
theorem exSs_one {m : MS} (h : exS O m l o = some (.next, l1, o1)) : exSs O (.cons m .nil) l o = some (.next, l1, o1) := exSs_cons h rfl
end
end
section
structure G where
  xs : List Int
  k : Nat
  t : Nat
  mf : Mk
  mg : Mk
  mh : Mk
  led : Bool
  ov : Ov
noncomputable def bK : MSs := bodyM (hdM b_law)
noncomputable def bT : MSs := bodyM (hdM (dropM 5 bK))
noncomputable def G.named (g : G) (lay : Lay) : AObj := namedO g.mf g.mg g.mh g.led g.ov lay
noncomputable def G.mk' (g : G) : AV := marksA g.mf g.mg g.mh
noncomputable def G.sn (g : G) (wd : Wd) : Fg → Seen := seen wd g.mf g.mg g.mh g.ov g.led
noncomputable def G.due (g : G) (rows : List Row) (wd : Wd) : AV := vdA (firstV (vD (g.sn wd)) rows)
noncomputable def o4 (xs : List Int) (c : List (Nat × Nat)) (N : AObj) : Objs := [intL xs, .src c, N, typesO]
noncomputable def o5 (xs : List Int) (c : List (Nat × Nat)) (N : AObj) (rows : List Row) : Objs := [intL xs, .src c, N, typesO, rowsO rows]
noncomputable def tL (g : G) : Loc := [(n_script_, .ref 0), (n_k_, .int g.k), (n_source_, .ref 1), (n_marks_, marksA g.mf g.mg g.mh), (n_is_led_, .bool g.led), (n_world_, WF (.ref 2)), (n_over_, overA g.ov), (n_types_, .ref 3), (n_turn_, .int g.t)]
noncomputable def L2 (g : G) (wA : AV) : Loc := tL g ++ [(n_wanted_, wA), (n_rows_, .ref 4)]
noncomputable def L2w (g : G) (wA : AV) (wd : Wd) (d : Option AV) : Loc := L2 g wA ++ [(n_word_, .str wd.n)] ++ (match d with | none => [] | some v => [(n_due_, v)])
noncomputable def L3 (g : G) (wA : AV) : Loc := L2 g wA ++ [(n_held_, heldA)]
noncomputable def L5 (g : G) (wA dV : AV) : Loc := L3 g wA ++ [(n_due_, dV)]
noncomputable def L7 (g : G) (wA dV nV : AV) : Loc := L5 g wA dV ++ [(n_none_, nV)]
noncomputable def L8 (g : G) (wA dV nV T : AV) : Loc := L7 g wA dV nV ++ [(n_T_, T)]
noncomputable def dV (rows : List Row) : AV := vdA (firstV (vD heldS) rows)
noncomputable def nV (rows : List Row) : AV := vdA (firstV vNo rows)
noncomputable def wordsO : AObj := .list [.str n_holder_, .str n_holder_pointer_, .str n_number_, .str n_number_pointer_]
section
variable (g : G) (wA : AV) (c c' : List (Nat × Nat)) (N N' : AObj) (rows : List Row)
noncomputable abbrev OT1 : Orc := orcX (ov1 22 [.ref 1, WF (.ref 2)] (o4 g.xs c N) (.tup [wA, .ref 4]) (o5 g.xs c' N' rows) nob) 0
theorem t1_run : exS (OT1 g wA c c' N N' rows) (hdM bT) (tL g) (o4 g.xs c N) = some (.next, L2 g wA, o5 g.xs c' N' rows) :=
  exS_asgT (ev_call (orc_gl rfl) (evs_cons (ev_lv rfl) (evs_cons (ev_lv rfl) evs_nil)) (orc_hit ov1_hit)) rfl
noncomputable abbrev o6 (xs : List Int) (c : List (Nat × Nat)) (N : AObj) (rows : List Row) (x : AObj) : Objs := o5 xs c N rows ++ [x]
noncomputable def OT2 (wd : Wd) : Orc := orcX (ov1 20 [marksA g.mf g.mg g.mh, overA g.ov, .bool g.led, .str wd.n] (o6 g.xs c N rows wordsO) (seenA (g.sn wd)) (o6 g.xs c N rows wordsO) (ov1 21 [seenA (g.sn wd), .ref 4] (o6 g.xs c N rows wordsO) (g.due rows wd) (o6 g.xs c N rows wordsO) (ov1 23 [WF (.ref 2), wd.T, wA, g.due rows wd] (o6 g.xs c N rows wordsO) (.bool true) (o6 g.xs c N rows wordsO) nob))) 0
noncomputable def b2 : MSs := bodyM (hdM (dropM 1 bT))
theorem t2_body (wd : Wd) (d : Option AV) : exSs (OT2 g wA c N rows wd) b2 (L2w g wA wd d) (o6 g.xs c N rows wordsO) = some (.next, L2w g wA wd (some (g.due rows wd)), o6 g.xs c N rows wordsO) := by
  have k1 : (OT2 g wA c N rows wd).call 20 [marksA g.mf g.mg g.mh, overA g.ov, .bool g.led, .str wd.n] (o6 g.xs c N rows wordsO) = some (seenA (g.sn wd), o6 g.xs c N rows wordsO) := orc_hit ov1_hit
  have k2 : (OT2 g wA c N rows wd).call 21 [seenA (g.sn wd), .ref 4] (o6 g.xs c N rows wordsO) = some (g.due rows wd, o6 g.xs c N rows wordsO) := orc_hit ((ov1_miss rfl).trans ov1_hit)
  have k3 : (OT2 g wA c N rows wd).call 23 [WF (.ref 2), wd.T, wA, g.due rows wd] (o6 g.xs c N rows wordsO) = some (.bool true, o6 g.xs c N rows wordsO) := orc_hit ((ov1_miss rfl).trans ((ov1_miss rfl).trans ov1_hit))
  have e1 : subA (o6 g.xs c N rows wordsO) (.ref 3) (.str wd.n) = some wd.T := by cases wd <;> rfl
  cases d with
  | none =>
    exact exSs_cons (l1 := L2w g wA wd (some (g.due rows wd))) (exS_asg (ev_call (orc_gl rfl) (evs_cons (ev_call (orc_gl rfl) (evs_cons (ev_lv rfl) (evs_cons (ev_lv rfl) (evs_cons (ev_lv rfl) (evs_cons (ev_lv rfl) evs_nil)))) k1) (evs_cons (ev_lv rfl) evs_nil)) k2))
      (exSs_one (exS_ifS (c := false) (ev_not (ev_truth (ev_call (orc_gl rfl) (evs_cons (ev_lv rfl) (evs_cons (ev_sub (ev_lv rfl) (ev_lv rfl) e1) (evs_cons (ev_lv rfl) (evs_cons (ev_lv rfl) evs_nil)))) k3))) rfl))
  | some v =>
    exact exSs_cons (l1 := L2w g wA wd (some (g.due rows wd))) (exS_asg (ev_call (orc_gl rfl) (evs_cons (ev_call (orc_gl rfl) (evs_cons (ev_lv rfl) (evs_cons (ev_lv rfl) (evs_cons (ev_lv rfl) (evs_cons (ev_lv rfl) evs_nil)))) k1) (evs_cons (ev_lv rfl) evs_nil)) k2))
      (exSs_one (exS_ifS (c := false) (ev_not (ev_truth (ev_call (orc_gl rfl) (evs_cons (ev_lv rfl) (evs_cons (ev_sub (ev_lv rfl) (ev_lv rfl) e1) (evs_cons (ev_lv rfl) (evs_cons (ev_lv rfl) evs_nil)))) k3))) rfl))
noncomputable def wdOf (v : Option AV) : Wd := match v with
  | some (.str n) => bif eqN n n_number_ then .num else bif eqN n n_number_pointer_ then .numP else bif eqN n n_holder_ then .hol else .holP
  | _ => .hol
noncomputable def bv2 : SV := fun l o => exSs (OT2 g wA c N rows (wdOf (lk l n_word_))) b2 l o
theorem bv2_eq (wd : Wd) (d : Option AV) : bv2 g wA c N rows (L2w g wA wd d) (o6 g.xs c N rows wordsO) = some (.next, L2w g wA wd (some (g.due rows wd)), o6 g.xs c N rows wordsO) := by
  have e : wdOf (lk (L2w g wA wd d) n_word_) = wd := by cases wd <;> rfl
  show exSs (OT2 g wA c N rows (wdOf (lk (L2w g wA wd d) n_word_))) b2 _ _ = _
  rw [e]
  exact t2_body g wA c N rows wd d
theorem t2_iter : (ev O1 (iterM (hdM (dropM 1 bT)))).1 (L2 g wA) (o5 g.xs c N rows) = some (.ref 5, o6 g.xs c N rows wordsO) := by kernel_rfl
theorem t2_bind (wd wd' : Wd) (v : AV) : bindT [n_word_] (.str wd.n) (L2w g wA wd' (some v)) = some (L2w g wA wd (some v)) := rfl
theorem t2_loop : forGo (.list 5) [n_word_] (bv2 g wA c N rows) 100 0 (L2 g wA) (o6 g.xs c N rows wordsO) = some (.next, L2w g wA .numP (some (g.due rows .numP)), o6 g.xs c N rows wordsO) := by
  refine forGo_step (v := .str n_holder_) (l1 := L2w g wA .hol none) rfl rfl (bv2_eq g wA c N rows .hol none) ?_
  refine forGo_step (v := .str n_holder_pointer_) (l1 := L2w g wA .holP (some _)) rfl rfl (bv2_eq g wA c N rows .holP _) ?_
  refine forGo_step (v := .str n_number_) (l1 := L2w g wA .num (some _)) rfl rfl (bv2_eq g wA c N rows .num _) ?_
  refine forGo_step (v := .str n_number_pointer_) (l1 := L2w g wA .numP (some _)) rfl rfl (bv2_eq g wA c N rows .numP _) ?_
  exact forGo_end rfl
end
end
section
noncomputable def lawN : List (Nm × Bool) := [(n_script_, false), (n_k_, false), (n_source_, false), (n_marks_, true), (n_is_led_, false), (n_world_, false), (n_over_, true), (n_types_, false), (n_turn_, false)]
noncomputable def lawN2 : List (Nm × Bool) := lawN ++ [(n_wanted_, true), (n_rows_, false)]
section
variable (g : G) (wA : AV) (c : List (Nat × Nat)) (rows : List Row) (lay : Lay)
noncomputable def G.cl (g : G) (L : List AV) : List AV := [rowN (pm g.mf) (pm g.mg) (pm g.mh), rowH g.led (oaOf g.ov)] ++ L
theorem t3_run (d : AV) : stepF O6 (hdM (dropM 2 bT)) 4 [4] 4 (lawN2 ++ [(n_held_, false)]) (L2w g wA .numP (some d)) (o6 g.xs c (g.named lay) rows wordsO) = some (L3 g wA, o5 g.xs c (g.named lay) rows, g.cl lay.xs ++ (rows.map rowL ++ []) ++ [marksA g.mf g.mg g.mh, overA g.ov, wA]) := by
  obtain ⟨u, ks, xs, hu⟩ := rowH_is g.led g.ov
  unfold G.named G.cl namedO namedX
  rw [hu]
  cases lay <;> kernel_rfl
noncomputable abbrev OT4 (N : AObj) : Orc := orcX (ov1 21 [.ref 5, .ref 4] (o6 g.xs c N rows heldO) (dV rows) (o6 g.xs c N rows heldO) nob) 0
theorem t4_arg (O : Orc) (N : AObj) : ∃ e es, hdM (dropM 3 bT) = .asg n_due_ (.call (.gl 31) (.cons e es)) ∧ (ev O e).1 (L3 g wA) (o5 g.xs c N rows) = some (.ref 5, o6 g.xs c N rows heldO) ∧ es = .cons (.lv n_rows_) .nil := ⟨_, _, rfl, by kernel_rfl, rfl⟩
theorem t4_run (N : AObj) : exS (OT4 g c rows N) (hdM (dropM 3 bT)) (L3 g wA) (o5 g.xs c N rows) = some (.next, L5 g wA (dV rows), o6 g.xs c N rows heldO) := by
  obtain ⟨e, es, h1, h2, h3⟩ := t4_arg g wA c rows (OT4 g c rows N) N
  rw [h1, h3]
  exact exS_asg (ev_call (orc_gl rfl) (evs_cons h2 (evs_cons (ev_lv rfl) evs_nil)) (orc_hit ov1_hit))
theorem t5_run (d : AV) : stepF O6 (hdM (dropM 4 bT)) 4 [4] 4 (lawN2 ++ [(n_held_, false), (n_due_, true)]) (L5 g wA d) (o6 g.xs c (g.named lay) rows heldO) = some (L5 g wA d, o5 g.xs c (g.named lay.setV) rows, g.cl lay.noV ++ (rows.map rowL ++ []) ++ [marksA g.mf g.mg g.mh, overA g.ov, wA, d]) := by
  obtain ⟨u, ks, xs, hu⟩ := rowH_is g.led g.ov
  unfold G.named G.cl namedO namedX
  rw [hu]
  cases lay <;> kernel_rfl
noncomputable abbrev OT6 (N : AObj) : Orc := orcX (ovP 23 (fun as => as = [WF (.ref 2), heldA, wA, dV rows] ∨ as = [WF (.ref 2), vedA, wA, dV rows]) (o5 g.xs c N rows) (.bool true) nob) 0
theorem t6_run (N : AObj) : exS (OT6 g wA c rows N) (hdM (dropM 5 bT)) (L5 g wA (dV rows)) (o5 g.xs c N rows) = some (.next, L5 g wA (dV rows), o5 g.xs c N rows) :=
  exS_ifS (c := false) (ev_or2
    (ev_not (ev_truth (ev_call (orc_gl rfl) (evs_cons (ev_lv rfl) (evs_cons (ev_lv rfl) (evs_cons (ev_lv rfl) (evs_cons (ev_lv rfl) evs_nil)))) (orc_hit (ovP_hit (.inl rfl))))))
    (ev_not (ev_truth (ev_call (orc_gl rfl) (evs_cons (ev_lv rfl) (evs_cons (ev_tup (evs_cons ev_c (evs_cons ev_c evs_nil))) (evs_cons (ev_lv rfl) (evs_cons (ev_lv rfl) evs_nil)))) (orc_hit (ovP_hit (.inr rfl))))))) rfl
theorem t7_run (N : AObj) (d : AV) : exS O1 (hdM (dropM 6 bT)) (L5 g wA d) (o5 g.xs c N rows) = some (.next, L7 g wA d (nV rows), o6 g.xs c N rows (.list [])) := by
  cases rows with
  | nil => kernel_rfl
  | cons r t => kernel_rfl
noncomputable def tyL : List AV := [ptrA vedA, boolA, sliceA, structA]
noncomputable def b8 : MSs := bodyM (hdM (dropM 7 bT))
noncomputable abbrev o7 (xs : List Int) (c : List (Nat × Nat)) (N : AObj) (rows : List Row) : Objs := o6 xs c N rows (.list []) ++ [.list tyL]
theorem t8_iter (N : AObj) (d n : AV) : (ev O1 (iterM (hdM (dropM 7 bT)))).1 (L7 g wA d n) (o6 g.xs c N rows (.list [])) = some (.ref 6, o7 g.xs c N rows) := by kernel_rfl
noncomputable abbrev OT8 (N : AObj) (n : AV) : Orc := orcX (ovP 23 (fun as => ∃ T, T ∈ tyL ∧ as = [WF (.ref 2), T, wA, n]) (o7 g.xs c N rows) (.bool true) nob) 0
theorem t8_body (N : AObj) (d n T : AV) (hT : T ∈ tyL) : exSs (OT8 g wA c rows N n) b8 (L8 g wA d n T) (o7 g.xs c N rows) = some (.next, L8 g wA d n T, o7 g.xs c N rows) :=
  exSs_one (exS_ifS (c := false) (ev_not (ev_truth (ev_call (orc_gl rfl) (evs_cons (ev_lv rfl) (evs_cons (ev_lv rfl) (evs_cons (ev_lv rfl) (evs_cons (ev_lv rfl) evs_nil)))) (orc_hit (ovP_hit ⟨T, hT, rfl⟩))))) rfl)
theorem t8_loop (N : AObj) (d n : AV) : forGo (.list 6) [n_T_] (exSs (OT8 g wA c rows N n) b8) 100 0 (L7 g wA d n) (o7 g.xs c N rows) = some (.next, L8 g wA d n structA, o7 g.xs c N rows) := by
  refine forGo_step (v := ptrA vedA) (l1 := L8 g wA d n (ptrA vedA)) rfl rfl (t8_body g wA c rows N d n _ (.head _)) ?_
  refine forGo_step (v := boolA) (l1 := L8 g wA d n boolA) rfl rfl (t8_body g wA c rows N d n _ (.tail _ (.head _))) ?_
  refine forGo_step (v := sliceA) (l1 := L8 g wA d n sliceA) rfl rfl (t8_body g wA c rows N d n _ (.tail _ (.tail _ (.head _)))) ?_
  refine forGo_step (v := structA) (l1 := L8 g wA d n structA) rfl rfl (t8_body g wA c rows N d n _ (.tail _ (.tail _ (.tail _ (.head _))))) ?_
  exact forGo_end rfl
theorem t9_cmp (d n T : AV) : cmpF 4 [] 4 lawN (L8 g wA d n T) (o7 g.xs c (g.named lay) rows) = some (tL g, o4 g.xs c (g.named lay), g.cl lay.xs ++ [marksA g.mf g.mg g.mh, overA g.ov]) := by
  obtain ⟨u, ks, xs, hu⟩ := rowH_is g.led g.ov
  unfold G.named G.cl namedO namedX
  rw [hu]
  cases lay <;> kernel_rfl
end
end
section
theorem dget_n (mf mg mh : Mk) (led : Bool) (ov : Ov) (lay : Lay) : World1 (namedK lay) (namedX mf mg mh led ov lay) mf mg mh led ov := ⟨rfl, rfl⟩
theorem dget_w (mf mg mh : Mk) (led : Bool) (ov : Ov) (lay : Lay) (u : List Row) : dget (namedK (lay.setW u)) (namedX mf mg mh led ov (lay.setW u)) n_m_W_ = some (rowA n_m_W_ (wantA u) [] []) := by
  cases lay <;> rfl
theorem dget_wv (mf mg mh : Mk) (led : Bool) (ov : Ov) (lay : Lay) (u : List Row) : dget (namedK (lay.setW u).setV) (namedX mf mg mh led ov (lay.setW u).setV) n_m_W_ = some (rowA n_m_W_ (wantA u) [] []) := by
  cases lay <;> rfl
theorem dget_v (mf mg mh : Mk) (led : Bool) (ov : Ov) (lay : Lay) : dget (namedK lay.setV) (namedX mf mg mh led ov lay.setV) n_m_V_ = some (rowA n_m_V_ heldA [] []) := by
  cases lay <;> rfl
theorem want_w (mf mg mh : Mk) (led : Bool) (ov : Ov) (lay : Lay) (w : Nat) (rows : List Row) : WantK (namedK (layOf w lay rows)) (namedX mf mg mh led ov (layOf w lay rows)) rows (wAof w rows) := by
  cases w with
  | zero => exact .inl rfl
  | succ w => exact .inr ⟨rfl, dget_w mf mg mh led ov lay rows⟩
theorem want_wv (mf mg mh : Mk) (led : Bool) (ov : Ov) (lay : Lay) (w : Nat) (rows : List Row) : WantK (namedK (layOf w lay rows).setV) (namedX mf mg mh led ov (layOf w lay rows).setV) rows (wAof w rows) := by
  cases w with
  | zero => exact .inl rfl
  | succ w => exact .inr ⟨rfl, dget_wv mf mg mh led ov lay rows⟩
theorem wAof_clo (w : Nat) (rows : List Row) : Clo (wAof w rows) := by
  cases w with
  | zero => exact want_clo rows
  | succ w => exact fun tok => rfl
theorem g_clo (g : G) {L : List AV} (h : CloL L) : CloL (g.cl L) := named_clo _ _ _ _ _ h
theorem rows_lt (a b d : Option Bool) : (rowsOf a b d).length < 100 := by
  cases a <;> cases b <;> cases d <;> simp [rowsOf, optR]
section
variable {C : Cfg} {nd : Nat}
theorem orc0_ok (S : Std C) {b : Base} (B : BaseOk C 200 b) : OrcOk C 200 (orcX b 0) := orcX_ok S B 0
theorem o1_200 (S : Std C) : OrcOk C 200 O1 := o1_ok S (nd := 198)
noncomputable def turnD (af sf ag sg ah sh w : Nat) : List (Nat × Nat) := askD af sf ++ (askD ag sg ++ (askD ah sh ++ [(2, w)]))
theorem turnD_app (af sf ag sg ah sh w : Nat) (c : List (Nat × Nat)) : turnD af sf ag sg ah sh w ++ c = askD af sf ++ (askD ag sg ++ (askD ah sh ++ ((2, w) :: c))) := by
  simp [turnD]
theorem turn_ok (S : Std C) (g : G) (lay : Lay) (c : List (Nat × Nat)) (af sf ag sg ah sh w : Nat) (h1 : af < 2) (h2 : sf < 3) (h3 : ag < 2) (h4 : sg < 3) (h5 : ah < 2) (h6 : sh < 3) (hw : w < 2) :
    SM C 200 4 bT (tL g) (o4 g.xs (turnD af sf ag sg ah sh w ++ c) (g.named lay)) .next (tL g) (o4 g.xs c (g.named (layOf w lay (rowsOf (askOf af sf) (askOf ag sg) (askOf ah sh))).setV)) := by
  rw [turnD_app]
  generalize hr : rowsOf (askOf af sf) (askOf ag sg) (askOf ah sh) = rows
  have hl : rows.length < 100 := by rw [← hr]; exact rows_lt _ _ _
  generalize hwa : wAof w rows = wA
  have hc : Clo wA := by rw [← hwa]; exact wAof_clo w rows
  have hW : WantK (namedK (layOf w lay rows)) (namedX g.mf g.mg g.mh g.led g.ov (layOf w lay rows)) rows wA := by rw [← hwa]; exact want_w _ _ _ _ _ _ _ _
  have hWV : WantK (namedK (layOf w lay rows).setV) (namedX g.mf g.mg g.mh g.led g.ov (layOf w lay rows).setV) rows wA := by rw [← hwa]; exact want_wv _ _ _ _ _ _ _ _
  have s1 : S1 C 200 4 (hdM bT) (tL g) _ .next (L2 g wA) (o5 g.xs c (g.named (layOf w lay rows)) rows) :=
    S1.of S (orc0_ok S (ov1_ok ((asked_ok S g.xs g.mf g.mg g.mh g.led g.ov lay c af sf ag sg ah sh w h1 h2 h3 h4 h5 h6 hw rows hr.symm).mono (by omega)) (kp_22 S) nob_ok)) (orcX_gls _ _)
      (by rw [hwa]; exact t1_run g wA _ c (g.named lay) (g.named (layOf w lay rows)) rows)
  generalize layOf w lay rows = ly at hW hWV s1 ⊢
  have ok2 : ∀ wd, OrcOk C 200 (OT2 g wA c (g.named ly) rows wd) := fun wd => orc0_ok S
    (ov1_ok ((seen_ok S g.mf g.mg g.mh g.ov g.led wd _).mono (by omega)) (kp_20 S)
    (ov1_ok ((due_ok S (sn := g.sn wd) (i := 4) (o := o6 g.xs c (g.named ly) rows wordsO) rfl hl).mono (by omega)) (kp_21 S)
    (ov1_ok (so_wd S (n := 2) (ep := none) rfl (dget_n g.mf g.mg g.mh g.led g.ov ly) hW hl wd) (kp_23 S) nob_ok)))
  have s2 : S1 C 200 4 (hdM (dropM 1 bT)) (L2 g wA) (o5 g.xs c (g.named ly) rows) .next _ _ :=
    S1.forS S (XE.of S (o1_200 S) (orcX_gls _ _) (t2_iter g wA c (g.named ly) rows)) rfl (fun l o fl l' o' e => SM.of S (ok2 _) (orcX_gls _ _) e) (t2_loop g wA c (g.named ly) rows)
  have s3 : S1 C 200 4 (hdM (dropM 2 bT)) _ _ .next _ _ := (S1.stepF S (o6_ok S) (orcX_gls _ _) (by decide) rfl (t3_run g wA c rows ly (g.due rows .numP))
    (CloL.all (((g_clo g (lay_clo ly)).app ((rowL_clo rows).app .nil)).app (.cons (marks_clo _ _ _) (.cons (over_clo _) (.cons hc .nil)))))).mono (by omega)
  have s4 : S1 C 200 4 (hdM (dropM 3 bT)) _ _ .next _ _ := S1.of S (orc0_ok S (ov1_ok ((due_held S hl).mono (by omega)) (kp_21 S) nob_ok)) (orcX_gls _ _) (t4_run g wA c rows (g.named ly))
  have s5 : S1 C 200 4 (hdM (dropM 4 bT)) _ _ .next _ _ := (S1.stepF S (o6_ok S) (orcX_gls _ _) (by decide) rfl (t5_run g wA c rows ly (dV rows))
    (CloL.all (((g_clo g (noV_clo ly)).app ((rowL_clo rows).app .nil)).app (.cons (marks_clo _ _ _) (.cons (over_clo _) (.cons hc (.cons (vd_clo _) .nil))))))).mono (by omega)
  have s6 : S1 C 200 4 (hdM (dropM 5 bT)) _ _ .next _ _ := S1.of S (orc0_ok S (ovP_ok (fun as h => by
    rcases h with rfl | rfl
    · exact so_held S (n := 2) (ep := none) rfl hWV hl
    · exact so_ved S (n := 2) (ep := none) rfl (dget_v g.mf g.mg g.mh g.led g.ov ly) hWV hl) (kp_23 S) nob_ok)) (orcX_gls _ _) (t6_run g wA c rows (g.named ly.setV))
  have s7 : S1 C 200 4 (hdM (dropM 6 bT)) _ _ .next _ _ := S1.of S (o1_200 S) (orcX_gls _ _) (t7_run g wA c rows (g.named ly.setV) (dV rows))
  have ok8 : OrcOk C 200 (OT8 g wA c rows (g.named ly.setV) (nV rows)) := orc0_ok S (ovP_ok (fun as h => by
    obtain ⟨T, hT, rfl⟩ := h
    simp only [tyL, List.mem_cons, List.not_mem_nil, or_false] at hT
    rcases hT with rfl | rfl | rfl | rfl
    · exact so_pved S (n := 2) (ep := none) rfl (dget_v g.mf g.mg g.mh g.led g.ov ly) hWV hl
    · exact so_bool S (n := 2) (ep := none) rfl hWV hl
    · exact so_slice S (n := 2) (ep := none) rfl hWV hl
    · exact so_struct S (n := 2) (ep := none) rfl hWV hl) (kp_23 S) nob_ok)
  have s8 : S1 C 200 4 (hdM (dropM 7 bT)) _ _ .next _ _ := S1.forS S (XE.of S (o1_200 S) (orcX_gls _ _) (t8_iter g wA c rows (g.named ly.setV) (dV rows) (nV rows))) rfl (fun l o fl l' o' e => SM.of S ok8 (orcX_gls _ _) e) (t8_loop g wA c rows (g.named ly.setV) (dV rows) (nV rows))
  have s9 := s8.post (cmpF_ok (C := C) (by decide) rfl (t9_cmp g wA c rows ly.setV (dV rows) (nV rows) structA) (CloL.all ((g_clo g (lay_clo _)).app (.cons (marks_clo _ _ _) (.cons (over_clo _) .nil)))))
  exact SM.cons s1 (SM.cons s2 (SM.cons s3 (SM.cons s4 (SM.cons s5 (SM.cons s6 (SM.cons s7 (SM.cons s9 SM.nil)))))))
end
end
section
open Classical in
noncomputable def bvT (q : Nat) (Lf : Nat → Loc) (Of : Nat → Objs) (ix : Loc → Nat) : SV := fun l o => if ix l < q ∧ l = Lf (ix l) ∧ o = Of (ix l) then some (.next, Lf (ix l), Of (ix l + 1)) else none
section
variable {C : Cfg} {nd : Nat} {q : Nat} {Lf : Nat → Loc} {Of : Nat → Objs} {ix : Loc → Nat} {b : MSs}
theorem bvT_ok (H : ∀ i, i < q → SM C nd (Of i).length b (Lf i) (Of i) .next (Lf i) (Of (i + 1))) : ∀ l o fl l' o', bvT q Lf Of ix l o = some (fl, l', o') → SM C nd o.length b l o fl l' o' := fun l o fl l' o' e => by
  unfold bvT at e
  split at e
  · rename_i h
    obtain ⟨h1, h2, h3⟩ := h
    cases e
    generalize ix l = i at h1 h2 h3 ⊢
    rw [h2, h3]
    exact H i h1
  · cases e
theorem bvT_eq (hix : ∀ i, ix (Lf i) = i) {i : Nat} (hi : i < q) : bvT q Lf Of ix (Lf i) (Of i) = some (.next, Lf i, Of (i + 1)) := by
  unfold bvT
  rw [hix i, if_pos ⟨hi, rfl, rfl⟩]
end
noncomputable def natOf (v : Option AV) : Nat := match v with
  | some (.int (.ofNat n)) => n
  | _ => 0
structure Dr where
  af : Nat
  sf : Nat
  ag : Nat
  sg : Nat
  ah : Nat
  sh : Nat
  w : Nat
noncomputable def Dr.ok (d : Dr) : Prop := d.af < 2 ∧ d.sf < 3 ∧ d.ag < 2 ∧ d.sg < 3 ∧ d.ah < 2 ∧ d.sh < 3 ∧ d.w < 2
noncomputable def Dr.D (d : Dr) : List (Nat × Nat) := turnD d.af d.sf d.ag d.sg d.ah d.sh d.w
noncomputable def Dr.rows (d : Dr) : List Row := rowsOf (askOf d.af d.sf) (askOf d.ag d.sg) (askOf d.ah d.sh)
noncomputable def Dr.lay (d : Dr) (lay : Lay) : Lay := (layOf d.w lay d.rows).setV
noncomputable def G.at (g : G) (t : Nat) : G := { g with t := t }
noncomputable def tL0 (g : G) : Loc := [(n_script_, .ref 0), (n_k_, .int g.k), (n_source_, .ref 1), (n_marks_, marksA g.mf g.mg g.mh), (n_is_led_, .bool g.led), (n_world_, WF (.ref 2)), (n_over_, overA g.ov), (n_types_, .ref 3)]
noncomputable def turnO (g : G) (d0 d1 d2 : Dr) (i : Nat) : Objs := match i with
  | 0 => o4 g.xs (d0.D ++ (d1.D ++ (d2.D ++ []))) (g.named .base)
  | 1 => o4 g.xs (d1.D ++ (d2.D ++ [])) (g.named (d0.lay .base))
  | 2 => o4 g.xs (d2.D ++ []) (g.named (d1.lay (d0.lay .base)))
  | _ => o4 g.xs [] (g.named (d2.lay (d1.lay (d0.lay .base))))
section
variable {C : Cfg} {nd : Nat}
theorem turns_ok (S : Std C) (g : G) (d0 d1 d2 : Dr) (h0 : d0.ok) (h1 : d1.ok) (h2 : d2.ok) {n : Nat} :
    S1 C 200 n (hdM (dropM 5 bK)) (tL0 g) (turnO g d0 d1 d2 0) .next (tL (g.at 2)) (turnO g d0 d1 d2 3) := by
  have H : ∀ i, i < 3 → SM C 200 (turnO g d0 d1 d2 i).length bT (tL (g.at i)) (turnO g d0 d1 d2 i) .next (tL (g.at i)) (turnO g d0 d1 d2 (i + 1)) := fun i hi => by
    obtain ⟨a1, a2, a3, a4, a5, a6, a7⟩ := h0
    obtain ⟨b1, b2, b3, b4, b5, b6, b7⟩ := h1
    obtain ⟨c1, c2, c3, c4, c5, c6, c7⟩ := h2
    match i, hi with
    | 0, _ => exact turn_ok S (g.at 0) .base _ _ _ _ _ _ _ _ a1 a2 a3 a4 a5 a6 a7
    | 1, _ => exact turn_ok S (g.at 1) (d0.lay .base) _ _ _ _ _ _ _ _ b1 b2 b3 b4 b5 b6 b7
    | 2, _ => exact turn_ok S (g.at 2) (d1.lay (d0.lay .base)) _ _ _ _ _ _ _ _ c1 c2 c3 c4 c5 c6 c7
  have hix : ∀ i, (fun l => natOf (lk l n_turn_)) (tL (g.at i)) = i := fun i => rfl
  refine S1.forR (q := 3) (f := 100) S (XE.of S (o1_200 S) (orcX_gls _ _) rfl) (by decide) (bvT_ok (q := 3) (Lf := fun i => tL (g.at i)) (Of := turnO g d0 d1 d2) (ix := fun l => natOf (lk l n_turn_)) H) ?_
  refine forGo_step (v := .int 0) (l1 := tL (g.at 0)) rfl rfl (bvT_eq (Lf := fun i => tL (g.at i)) hix (by decide)) ?_
  refine forGo_step (v := .int 1) (l1 := tL (g.at 1)) rfl rfl (bvT_eq (Lf := fun i => tL (g.at i)) hix (by decide)) ?_
  refine forGo_step (v := .int 2) (l1 := tL (g.at 2)) rfl rfl (bvT_eq (Lf := fun i => tL (g.at i)) hix (by decide)) ?_
  exact forGo_end rfl
end
end
section
theorem mark_path (i j : Int) (hj : Bd j) : ∃ w, w < 5 ∧ ∃ s, s < 3 ∧ ∃ i' j', Path (markD w s) i j i' j' := by
  obtain ⟨w, hw, i1, j1, p1⟩ := one_draw 5 (by decide) i j hj
  cases w with
  | zero => exact ⟨0, hw, 0, by decide, i1, j1, p1⟩
  | succ w =>
    obtain ⟨s, hs, i2, j2, p2⟩ := one_draw 3 (by decide) i1 j1 p1.1
    exact ⟨w + 1, hw, s, hs, i2, j2, p1.trans p2⟩
theorem ask_path (i j : Int) (hj : Bd j) : ∃ a, a < 2 ∧ ∃ s, s < 3 ∧ ∃ i' j', Path (askD a s) i j i' j' := by
  obtain ⟨a, ha, i1, j1, p1⟩ := one_draw 2 (by decide) i j hj
  cases a with
  | zero =>
    obtain ⟨s, hs, i2, j2, p2⟩ := one_draw 3 (by decide) i1 j1 p1.1
    exact ⟨0, ha, s, hs, i2, j2, p1.trans p2⟩
  | succ a => exact ⟨a + 1, ha, 0, by decide, i1, j1, p1⟩
theorem ov_path (i j : Int) (hj : Bd j) : ∃ w, w < 4 ∧ ∃ x, x < 3 ∧ ∃ p, p < 2 ∧ ∃ s, s < 2 ∧ ∃ i' j', Path (ovD w x p s) i j i' j' := by
  obtain ⟨w, hw, i1, j1, p1⟩ := one_draw 4 (by decide) i j hj
  match w, hw, p1 with
  | 0, hw, p1 =>
    obtain ⟨x, hx, i2, j2, p2⟩ := one_draw 3 (by decide) i1 j1 p1.1
    obtain ⟨p, hp, i3, j3, p3⟩ := one_draw 2 (by decide) i2 j2 p2.1
    exact ⟨0, hw, x, hx, p, hp, 0, by decide, i3, j3, (p1.trans p2).trans p3⟩
  | 1, hw, p1 =>
    obtain ⟨x, hx, i2, j2, p2⟩ := one_draw 3 (by decide) i1 j1 p1.1
    obtain ⟨p, hp, i3, j3, p3⟩ := one_draw 2 (by decide) i2 j2 p2.1
    obtain ⟨s, hs, i4, j4, p4⟩ := one_draw 2 (by decide) i3 j3 p3.1
    exact ⟨1, hw, x, hx, p, hp, s, hs, i4, j4, ((p1.trans p2).trans p3).trans p4⟩
  | w + 2, hw, p1 => exact ⟨w + 2, hw, 0, by decide, 0, by decide, 0, by decide, i1, j1, p1⟩
theorem turn_path (i j : Int) (hj : Bd j) : ∃ d : Dr, d.ok ∧ ∃ i' j', Path d.D i j i' j' := by
  obtain ⟨af, a1, sf, a2, i1, j1, p1⟩ := ask_path i j hj
  obtain ⟨ag, a3, sg, a4, i2, j2, p2⟩ := ask_path i1 j1 p1.1
  obtain ⟨ah, a5, sh, a6, i3, j3, p3⟩ := ask_path i2 j2 p2.1
  obtain ⟨w, a7, i4, j4, p4⟩ := one_draw 2 (by decide) i3 j3 p3.1
  exact ⟨⟨af, sf, ag, sg, ah, sh, w⟩, ⟨a1, a2, a3, a4, a5, a6, a7⟩, i4, j4, p1.trans (p2.trans (p3.trans p4))⟩
theorem BaseOk.mono {C : Cfg} {a b : Nat} {base : Base} (h : BaseOk C a base) (hb : a ≤ b) : BaseOk C b base := fun i as o r o' e => ⟨(h i as o r o' e).1.mono hb, (h i as o r o' e).2⟩
noncomputable def kL (k : Nat) : Loc := [(n_script_, .ref 0), (n_k_, .int k)]
section
variable (xs : List Int) (k : Nat) (c : List (Nat × Nat)) (mf mg mh : Mk) (led : Bool) (ov : Ov) (N : AObj)
theorem k0_run : exS (orcX (ov1 14 [.ref 0, .int k] [intL xs] (.ref 1) [intL xs, .src c] nob) 0) (hdM bK) (kL k) [intL xs] = some (.next, kL k ++ [(n_source_, .ref 1)], [intL xs, .src c]) :=
  exS_asg (ev_call (orc_gl rfl) (evs_cons (ev_lv rfl) (evs_cons (ev_lv rfl) evs_nil)) (orc_hit ov1_hit))
theorem k1_run (c0 : List (Nat × Nat)) (r : Nat) (hr : r < 2) : exS (orcX (ov1 18 [.ref 1] [intL xs, .src c0] (marksA mf mg mh) [intL xs, .src ((2, r) :: c)] tkB) 0) (hdM (dropM 1 bK)) (kL k ++ [(n_source_, .ref 1)]) [intL xs, .src c0] = some (.next, kL k ++ [(n_source_, .ref 1), (n_marks_, marksA mf mg mh), (n_is_led_, .bool (Nat.beq r 0))], [intL xs, .src c]) := by
  have h15 : tkB 15 [.ref 1, .int 2] [intL xs, .src ((2, r) :: c)] = some (.int r, [intL xs, .src c]) := rfl
  have hc : cmpA [intL xs, .src c] .Eq (.int r) (.int 0) = some (Nat.beq r 0) := by
    rcases lt2 hr with rfl | rfl <;> rfl
  exact exS_asgT (ev_tup (evs_cons (ev_call (orc_gl rfl) (evs_cons (ev_lv rfl) evs_nil) (orc_hit ov1_hit)) (evs_cons (ev_cmp (ev_call (orc_gl rfl) (evs_cons (ev_lv rfl) (evs_cons ev_c evs_nil)) (orc_hit ((ov1_miss rfl).trans h15))) ev_c hc).1 evs_nil))) rfl
theorem k2_run (c0 : List (Nat × Nat)) : exS (orcX (ov1 19 [.ref 1, marksA mf mg mh, .bool led] [intL xs, .src c0] (.tup [WF (.ref 2), overA ov]) [intL xs, .src c, N] nob) 0) (hdM (dropM 2 bK)) (kL k ++ [(n_source_, .ref 1), (n_marks_, marksA mf mg mh), (n_is_led_, .bool led)]) [intL xs, .src c0] = some (.next, kL k ++ [(n_source_, .ref 1), (n_marks_, marksA mf mg mh), (n_is_led_, .bool led), (n_world_, WF (.ref 2)), (n_over_, overA ov)], [intL xs, .src c, N]) :=
  exS_asgT (ev_call (orc_gl rfl) (evs_cons (ev_lv rfl) (evs_cons (ev_lv rfl) (evs_cons (ev_lv rfl) evs_nil))) (orc_hit ov1_hit)) rfl
noncomputable def typesO3 : AObj := .dict [n_number_, n_number_pointer_, n_holder_] [numA, ptrA numA, holA] none
theorem k3_run : exS O1 (hdM (dropM 3 bK)) (kL k ++ [(n_source_, .ref 1), (n_marks_, marksA mf mg mh), (n_is_led_, .bool led), (n_world_, WF (.ref 2)), (n_over_, overA ov)]) [intL xs, .src c, N] = some (.next, tL0 ⟨xs, k, 0, mf, mg, mh, led, ov⟩, [intL xs, .src c, N, typesO3]) := by kernel_rfl
theorem k4_run : exS O1 (hdM (dropM 4 bK)) (tL0 ⟨xs, k, 0, mf, mg, mh, led, ov⟩) [intL xs, .src c, N, typesO3] = some (.next, tL0 ⟨xs, k, 0, mf, mg, mh, led, ov⟩, o4 xs c N) := by kernel_rfl
theorem k6_cmp (g : G) : cmpF 1 [] 4 [(n_script_, false), (n_k_, false)] (tL g) (o4 xs c N) = some (kL g.k, [intL xs], []) := by kernel_rfl
end
section
variable {C : Cfg} {nd : Nat}
theorem cell_ok (S : Std C) (xs : List Int) (hx : xs.length ≤ 63) (k : Nat) (hk : k = 0 ∨ k = 1) : SM C 200 1 bK (kL k) [intL xs] .next (kL k) [intL xs] := by
  obtain ⟨i, j, hj, P⟩ := pool_ok S xs hx k hk
  obtain ⟨wf, m1, sf, m2, i1, j1, p1⟩ := mark_path i j hj
  obtain ⟨wg, m3, sg, m4, i2, j2, p2⟩ := mark_path i1 j1 p1.1
  obtain ⟨wh, m5, sh, m6, i3, j3, p3⟩ := mark_path i2 j2 p2.1
  obtain ⟨r, hr, i4, j4, p4⟩ := one_draw 2 (by decide) i3 j3 p3.1
  obtain ⟨w, v1, x, v2, p, v3, s, v4, i5, j5, p5⟩ := ov_path i4 j4 p4.1
  obtain ⟨d0, g0, i6, j6, p6⟩ := turn_path i5 j5 p5.1
  obtain ⟨d1, g1, i7, j7, p7⟩ := turn_path i6 j6 p6.1
  obtain ⟨d2, g2, i8, j8, p8⟩ := turn_path i7 j7 p7.1
  have cons := p1.2 _ (p2.2 _ (p3.2 _ (p4.2 _ (p5.2 _ (p6.2 _ (p7.2 _ (p8.2 [] p8.1)))))))
  have s0 := S1.of (n := 1) S (orc0_ok S (ov1_ok ((P _ cons).mono (by omega)) (kp_14 S) nob_ok)) (orcX_gls _ _) (k0_run xs k _)
  have s1 := S1.of (n := 1) S (orc0_ok S (ov1_ok ((marks_ok S xs wf sf wg sg wh sh m1 m2 m3 m4 m5 m6 ([(2, r)] ++ (ovD w x p s ++ (d0.D ++ (d1.D ++ (d2.D ++ [])))))).mono (by omega)) (kp_18 S) ((tkB_ok S).mono (by omega)))) (orcX_gls _ _) (k1_run xs k _ _ _ _ _ r hr)
  have s2 := S1.of (n := 1) S (orc0_ok S (ov1_ok ((built_ok S xs (mkOf wf sf) (mkOf wg sg) (mkOf wh sh) (Nat.beq r 0) (d0.D ++ (d1.D ++ (d2.D ++ []))) w x p s v1 v2 v3 v4).mono (by omega)) (kp_19 S) nob_ok)) (orcX_gls _ _) (k2_run xs k _ _ _ _ _ _ _ _)
  have s3 := S1.of (n := 1) S (o1_200 S) (orcX_gls _ _) (k3_run xs k (d0.D ++ (d1.D ++ (d2.D ++ []))) (mkOf wf sf) (mkOf wg sg) (mkOf wh sh) (Nat.beq r 0) (ovOf w x p s) (namedH (mkOf wf sf) (mkOf wg sg) (mkOf wh sh) (Nat.beq r 0) (ovOf w x p s)))
  have s4 := S1.of (n := 1) S (o1_200 S) (orcX_gls _ _) (k4_run xs k (d0.D ++ (d1.D ++ (d2.D ++ []))) (mkOf wf sf) (mkOf wg sg) (mkOf wh sh) (Nat.beq r 0) (ovOf w x p s) (namedH (mkOf wf sf) (mkOf wg sg) (mkOf wh sh) (Nat.beq r 0) (ovOf w x p s)))
  have s5 := turns_ok (n := 1) S ⟨xs, k, 0, mkOf wf sf, mkOf wg sg, mkOf wh sh, Nat.beq r 0, ovOf w x p s⟩ d0 d1 d2 g0 g1 g2
  have s6 := s5.post (cmpF_ok (C := C) (n := 1) (rest := []) (by decide) rfl (k6_cmp xs _ _ _) (fun x h => by cases h))
  exact SM.cons s0 (SM.cons s1 (SM.cons s2 (SM.cons s3 (SM.cons s4 (SM.cons s6 SM.nil)))))
end
end
section
open Classical in
noncomputable def ovG (i0 : Nat) (as0 : List AV) (P : Objs → Prop) (r0 : AV) (b : Base) : Base := fun i as o => if i = i0 ∧ as = as0 ∧ P o then some (r0, o) else b i as o
section
variable {C : Cfg} {nd n : Nat} {i0 i : Nat} {as0 as : List AV} {o o' : Objs} {r0 r : AV} {b : Base} {P : Objs → Prop}
theorem ovG_ok (h : ∀ o, P o → SC C nd (C.gval i0) as0 o r0 o) (k : KeepsF C (C.gval i0)) (B : BaseOk C nd b) : BaseOk C nd (ovG i0 as0 P r0 b) := by
  intro i as o r o' e
  unfold ovG at e
  split at e
  · rename_i q
    obtain ⟨rfl, rfl, q⟩ := q
    cases e
    exact ⟨h _ q, k⟩
  · exact B _ _ _ _ _ e
theorem ovG_hit (h : P o) : ovG i0 as0 P r0 b i0 as0 o = some (r0, o) := if_pos ⟨rfl, rfl, h⟩
theorem ovG_miss (h : Nat.beq i i0 = false) : ovG i0 as0 P r0 b i as o = b i as o := if_neg fun q => by
  rw [q.1, Nat.beq_refl] at h
  cases h
theorem orc_miss (h : b i as o = none) : (orcX b (n + 1)).call i as o = callT (orcX b n) i as o :=
  on_eq h rfl
end
noncomputable def lenQ (xs : List Int) : Nat := if xs.length ≤ 1 then 1 else 2
theorem lenQ_is (xs : List Int) : lenQ xs = 1 ∨ lenQ xs = 2 := by
  unfold lenQ
  split
  · exact .inl rfl
  · exact .inr rfl
theorem range_run (xs : List Int) (hx : xs.length ≤ 63) : (ev O1 (iterM (hdM b_law))).1 [(n_script_, .ref 0)] [intL xs] = some (.int (.ofNat (lenQ xs)), [intL xs]) := by
  have e50 : O1.call 50 [.ref 0] [intL xs] = some (.int (.ofNat xs.length), [intL xs]) := by
    show (if (xs.map AV.int).length < 1000 then some (AV.int (.ofNat (xs.map AV.int).length), [intL xs]) else none) = _
    rw [List.length_map, if_pos (by omega)]
  have e55 : O1.call 55 [.int 1, .int (min (.ofNat xs.length) 2)] [intL xs] = some (.int (.ofNat (lenQ xs)), [intL xs]) := by
    show some (AV.int (max 1 (min (.ofNat xs.length) 2)), [intL xs]) = _
    have : max (1 : Int) (min (.ofNat xs.length) 2) = .ofNat (lenQ xs) := by
      unfold lenQ
      split
      · show max (1 : Int) (min (xs.length : Int) 2) = 1
        omega
      · show max (1 : Int) (min (xs.length : Int) 2) = 2
        omega
    rw [this]
  exact ev_call rfl (evs_cons ev_c (evs_cons (ev_call rfl (evs_cons (ev_call rfl (evs_cons (ev_lv rfl) evs_nil) e50) (evs_cons ev_c evs_nil)) rfl) evs_nil)) e55
noncomputable def wL : Loc := [(n_world_, WF (.ref 1))]
noncomputable def rowF : AV := rowN (pm (some (false, false))) (pm none) (pm none)
noncomputable def lastO : AObj := .dict (bk ++ [n_m_N_]) [.top, .top, .top, .top, rowF] none
theorem last1 (k : Nat) (scr : AObj) : stepF O6 (hdM (dropM 1 b_law)) 1 [15] 3 [(n_world_, false)] (kL k) [scr] = some (wL, [scr, .dict bk kr none], []) := by kernel_rfl
theorem last2 (scr : AObj) : stepF O6 (hdM (dropM 2 b_law)) 1 [1] 4 [(n_world_, false)] wL [scr, .dict bk [.top, .top, .top, .top] none] = some (wL, [scr, lastO], []) := by kernel_rfl
noncomputable def lastAs : List AV := [WF (.ref 1), numA, wantA [(.f, true)], .tup [.str n_f_, .str n_other_type_]]
noncomputable abbrev OL : Orc := orcX (ovG 23 lastAs (fun o => o[1]? = some lastO) (.bool true) nob) 1
theorem sorts_call {b : Base} {n : Nat} {o : Objs} (h : b 17 [] o = none) : (orcX b (n + 1)).call 17 [] o = some (.ref o.length, o ++ [.list [psort false, psort true]]) := by
  rw [orc_miss h]
  kernel_rfl
theorem last3 (scr : AObj) : exS OL (hdM (dropM 3 b_law)) wL [scr, lastO] = some (.ret (.bool true), wL, [scr, lastO, .list [psort false, psort true]]) :=
  exS_ret (ev_call (orc_gl rfl) (evs_cons (ev_lv rfl) (evs_cons (orc_gl rfl) (evs_cons (ev_tup (evs_cons ev_c (evs_cons (ev_tup (evs_cons (ev_tup (evs_cons ev_c (evs_cons (ev_sub (ev_call (orc_gl rfl) evs_nil (sorts_call (ovG_miss rfl))) ev_c rfl) evs_nil))) evs_nil)) evs_nil)))
    (evs_cons (ev_tup (evs_cons ev_c (evs_cons ev_c evs_nil))) evs_nil)))) (orc_hit (ovG_hit rfl)))
section
variable {C : Cfg} {o : Objs} {n : Nat} {ks : List Nm} {xs : List AV} {ep : Option Nat} {rows : List Row} {wA : AV}
theorem so_num (S : Std C) (hn : o[n]? = some (.dict ks xs ep)) {mf mg mh : Mk} (hw : dget ks xs n_m_N_ = some (rowN (pm mf) (pm mg) (pm mh))) (hW : WantK ks xs rows wA) (hr : rows.length < 100) (led : Bool) (ov : Ov) :
    SC C 200 (C.gval 23) [WF (.ref n), numA, wA, vdA (firstV (vD (seen .num mf mg mh ov led)) rows)] o (.bool true) o := by
  refine isso S hn rfl hW.cv fun C' S' h1 h2 h3 h4 => ?_
  have hI := hW.is h1 h2 h4
  have KN : Tok C' 61 (WN (pm mf) (pm mg) (pm mh)) := h1 [n_m_N_] [rowN (pm mf) (pm mg) (pm mh)] ⟨_, _, rfl, hw, rfl⟩ (by show [cvA 61 tokT (rowN _ _ _)] = _; rw [rowN_cv])
  rw [← firstV_congr (num_same mf mg mh ov led)]
  exact so_type S' (is_num S' KN h3) hI hr
end
section
variable {C : Cfg} {nd : Nat}
theorem law_ok (S : Std C) (xs : List Int) (hx : xs.length ≤ 63) : ∃ o', SM C 202 1 b_law [(n_script_, .ref 0)] [intL xs] (.ret (.bool true)) wL (intL xs :: o') := by
  have H : ∀ i, i < lenQ xs → SM C 200 [intL xs].length bK (kL i) [intL xs] .next (kL i) [intL xs] := fun i hi => cell_ok S xs hx i (by rcases lenQ_is xs with h | h <;> omega)
  have hix : ∀ i, (fun l => natOf (lk l n_k_)) (kL i) = i := fun i => rfl
  have hf : ∃ k, forGo (.items (rangeA (lenQ xs))) [n_k_] (bvT (lenQ xs) kL (fun _ => [intL xs]) (fun l => natOf (lk l n_k_))) 100 0 [(n_script_, .ref 0)] [intL xs] = some (.next, kL k, [intL xs]) := by
    rcases lenQ_is xs with h | h
    · rw [h]
      refine ⟨0, ?_⟩
      refine forGo_step (v := .int 0) (l1 := kL 0) rfl rfl (bvT_eq (Lf := kL) (Of := fun _ => [intL xs]) hix (by decide)) ?_
      exact forGo_end rfl
    · rw [h]
      refine ⟨1, ?_⟩
      refine forGo_step (v := .int 0) (l1 := kL 0) rfl rfl (bvT_eq (Lf := kL) (Of := fun _ => [intL xs]) hix (by decide)) ?_
      refine forGo_step (v := .int 1) (l1 := kL 1) rfl rfl (bvT_eq (Lf := kL) (Of := fun _ => [intL xs]) hix (by decide)) ?_
      exact forGo_end rfl
  obtain ⟨k, hf⟩ := hf
  have s0 : S1 C 200 1 (hdM b_law) [(n_script_, .ref 0)] [intL xs] .next (kL k) [intL xs] :=
    S1.forR (q := lenQ xs) (f := 100) S (XE.of S (o1_200 S) (orcX_gls _ _) (range_run xs hx)) (by rcases lenQ_is xs with h | h <;> omega) (bvT_ok (Lf := kL) (Of := fun _ => [intL xs]) (ix := fun l => natOf (lk l n_k_)) H) hf
  obtain ⟨a, b, d, e, hk⟩ := kr_4
  have s1 : S1 C 200 1 (hdM (dropM 1 b_law)) (kL k) [intL xs] .next wL [intL xs, .dict bk [.top, .top, .top, .top] none] :=
    ((S1.stepF S (o6_ok S) (orcX_gls _ _) (by decide) rfl (last1 k (intL xs)) (fun x h => by cases h)).mono (by omega)).post (Cv.dict (i := 1) (ys := kr) (zs := [.top, .top, .top, .top]) rfl (by rw [hk]; exact .top (.top (.top (.top .nil)))) rfl)
  have s2 : S1 C 200 1 (hdM (dropM 2 b_law)) wL [intL xs, .dict bk [.top, .top, .top, .top] none] .next wL [intL xs, lastO] :=
    (S1.stepF S (o6_ok S) (orcX_gls _ _) (by decide) rfl (last2 (intL xs)) (fun x h => by cases h)).mono (by omega)
  have B : BaseOk C 200 (ovG 23 lastAs (fun o => o[1]? = some lastO) (.bool true) nob) := ovG_ok (fun o ho => by
    have q := so_num (o := o) (n := 1) (ks := bk ++ [n_m_N_]) (xs := [.top, .top, .top, .top, rowF]) (ep := none) (rows := [(.f, true)]) (wA := wantA [(.f, true)]) (mf := some (false, false)) (mg := none) (mh := none) S ho rfl (.inl rfl) (by decide) false .no
    exact q) (kp_23 S) nob_ok
  have s3 : S1 C 202 1 (hdM (dropM 3 b_law)) wL [intL xs, lastO] (.ret (.bool true)) wL _ := S1.of S (orcX_ok S B 1) (orcX_gls _ _) (last3 (intL xs))
  exact ⟨_, SM.cons (s0.mono (by omega)) (SM.cons (s1.mono (by omega)) (SM.cons (s2.mono (by omega)) (SM.ret s3)))⟩
end
end
section
noncomputable def hole (h : Heap) (a : Addr) : Heap := h.update a fun o => { o with data := .freed }
theorem hole_ne {h : Heap} {a b : Addr} (n : b ≠ a) : (hole h a).get? b = h.get? b := Heap.get?_update_ne _ _ _ _ n
theorem hole_self {h : Heap} {a : Addr} : (hole h a).get? a = none := by
  cases h with
  | mk objs life =>
    simp only [hole, Heap.update, Heap.get?, Array.getElem?_modify, if_true]
    cases objs[a]? <;> rfl
theorem hole_size {h : Heap} {a : Addr} : (hole h a).objs.size = h.objs.size := by
  cases h with
  | mk objs life => simp [hole, Heap.update]
theorem hole_keep {h : Heap} {a b : Addr} {o : Obj} (e : (hole h a).get? b = some o) : b ≠ a ∧ h.get? b = some o := by
  have n : b ≠ a := fun q => by
    subst q
    rw [hole_self] at e
    cases e
  rw [hole_ne n] at e
  exact ⟨n, e⟩
theorem hole_ns {h : Heap} {a b : Addr} {m : PySem.Str → Option Value} {vs : Array Value} (L : h.IsList a vs) (n : h.Ns b m) : (hole h a).Ns b m := by
  obtain ⟨o, es, ep, e, d, r⟩ := n
  refine ⟨o, es, ep, ?_, d, r⟩
  rw [hole_ne, e]
  intro q
  subst q
  obtain ⟨o2, e2, _, k, d2⟩ := L
  rw [e] at e2
  cases e2
  rw [d] at d2
  cases d2
noncomputable def notL (K : Frag) : Bool := K.all fun p => match p.2.cls with
  | .type t => !(t == "list")
  | _ => true
theorem notL_ne {K : Frag} {h : Heap} {a x : Addr} {o : Obj} {vs : Array Value} (hn : notL K = true) (L : h.IsList a vs) (e : K.lookup x = some o) (g : h.get? x = some o) : x ≠ a := by
  intro q
  subst q
  obtain ⟨o2, e2, hc, _⟩ := L
  rw [g] at e2
  cases e2
  have hm : (x, o) ∈ K := look_of e
  have := List.all_eq_true.mp hn _ hm
  simp [hc] at this
theorem KK_notL (w : World) : notL (KK w) = true := by kernel_rfl
theorem KK_big (w : World) : ((KK w).lookup 344).isSome = true := by kernel_rfl
theorem KK_sys (w : World) : ((KK w).lookup sysModules).isNone = true := by kernel_rfl
noncomputable def cfgOf (prog : Program) (w : World) (h : Heap) (p : Program) (loose : List PySem.Str) (mean : ExcName → Option Value) (mg mb : PySem.Str → Option Value) (a : Addr) (ob : Obj) : Cfg :=
  { prog := prog, w := w, H := hole h a, K := KK w, p := p, loose := loose, mean := mean, mg := mg, mb := mb, S := KK w, gval := gv0, cls := cl0, scr := (a, ob) }
section
variable {prog : Program} {w : World} {h : Heap} {p : Program} {loose : List PySem.Str} {mean : ExcName → Option Value} {mg mb : PySem.Str → Option Value} {a : Addr} {ob : Obj} {vs : Array Value}
theorem cfg_std (KX : (KK w).In h) (T : Top p loose mean mg mb h) (L : h.IsList a vs) : Std (cfgOf prog w h p loose mean mg mb a ob) where
  ok := {
    k := fun x o e => by
      have g := KX x o e
      show (hole h a).get? x = some o
      rw [hole_ne (notL_ne (KK_notL w) L e g), g]
    s := fun x o e => by
      have g := KX x o e
      show (hole h a).get? x = some o
      rw [hole_ne (notL_ne (KK_notL w) L e g), g]
    g := hole_ns L T.g
    b := hole_ns L T.b
    nolimit := by
      obtain ⟨mc, h1, h2⟩ := T.nolimit
      exact ⟨mc, hole_ns L h1, h2⟩
    big := by
      show 2 < (hole h a).objs.size
      rw [hole_size]
      obtain ⟨o, e⟩ := Option.isSome_iff_exists.mp (KK_big w)
      have h3 : (344 : Nat) < h.objs.size := Heap.lt_size (KX 344 o e)
      exact Nat.lt_trans (by decide) h3
    sys := fun o e => by
      have e : (KK w).lookup sysModules = some o := e
      have n := KK_sys w
      rw [e] at n
      cases n }
  K := rfl
  S := fun a o e => e
  mb := T.builtins
  gv := fun i _ => rfl
  cl := rfl
theorem ints_are {C : Cfg} {X γ : List Addr} {led : Led} {vs : List Value} {xs : List Int} (h : IntsAre vs xs) : VRs C X γ led (xs.map .int) vs := by
  induction h with
  | nil => simp only [List.map, VRs]
  | cons n t _ ih =>
    simp only [List.map, VRs]
    exact ⟨_, _, rfl, by simp only [VR]; exact ⟨t, rfl⟩, ih⟩
theorem no_cell {l : List (PySem.Str × NameKind)} (h : (l.all fun p => match p.2 with | .cell => false | _ => true) = true) {n : PySem.Str} : l.lookup n ≠ some .cell := fun e => by
  have := List.all_eq_true.mp h _ (mem_of_lookupK e)
  cases this
theorem join_core {name : PySem.Str} {scope : Scope} {body : List Stmt} {fa : Addr} {cd : Value} {h₁ : Heap} {m : PySem.Str → Option Value} {vs : List Value} {xs : List Int} {A : Around} {s : Shared} {Q : Flow → Shared → Prop} {E : Value → Shared → Prop}
    (KX : (KK w).In h) (T : Top p loose mean mg mb h) (L : h.IsList a vs.toArray) (I : IntsAre vs xs) (hx : xs.length ≤ 63) (F : Fr h h.objs.size h₁ m) (hs : s.heap = h₁) (hm : m (toS n_script_) = some (.ref a)) (hk : scope.kind = .function)
    (hnc : (scope.names.all fun p => match p.2 with | .cell => false | _ => true) = true) (hc : chkSs gls0 (fun n => scope.names.lookup n) b_law body = true) (R : Room A 202)
    (hQ : ∀ h' tk, (∀ b o, h.get? b = some o → h'.get? b = some o) → Q (.ret (.bool true)) { s with heap := h', toks := tk }) :
    wpAny (model prog w) A (execs body (envOf name scope h.objs.size fa cd)) Q E s := by
  obtain ⟨ob, eo, ecls, n, ed⟩ := id L
  have S : Std (cfgOf prog w h p loose mean mg mb a ob) := cfg_std KX T L
  obtain ⟨o', hlaw⟩ := law_ok S xs hx
  have V : EnvOk (envOf name scope h.objs.size fa cd) [h.objs.size] :=
    ⟨hk, rfl, rfl, .head _, fun n c e => (nomatch e), fun n n' c e => (nomatch e), fun p hp => (nomatch hp), fun n e => absurd e (no_cell hnc)⟩
  obtain ⟨oL, gL, nL⟩ := ns_o F.ns
  have la : a < h.objs.size := Heap.lt_size eo
  have D : At (cfgOf prog w h p loose mean mg mb a ob) (envOf name scope h.objs.size fa cd) [h.objs.size] [a] [(h.objs.size, oL), (a, ob)] [(n_script_, .ref 0)] [intL xs] s.heap := by
    rw [hs]
    refine ⟨⟨fun q hq => ?_, ?_, fun q hq => ?_, fun b o e => F.keep _ _ (hole_keep e).2⟩, ⟨rfl, by simp, fun x hx => ?_, fun x hx => ?_, fun i o x e1 e2 => ?_⟩, ⟨oL, m, .head _, nL, fun x av e => ⟨fun _ => ?_, fun e => absurd e (no_cell hnc)⟩⟩, fun n c e => (nomatch e)⟩
    · rcases List.mem_cons.mp hq with rfl | hq
      · exact gL
      · rw [List.mem_singleton.mp hq]; exact F.keep _ _ eo
    · show [h.objs.size, a].Nodup
      simp
      exact Nat.ne_of_gt la
    · rcases List.mem_cons.mp hq with rfl | hq
      · refine .inl ?_
        show (hole h a).objs.size ≤ h.objs.size
        rw [hole_size]
        exact Nat.le_refl _
      · rw [List.mem_singleton.mp hq]
        exact .inr ⟨hole_self, ⟨_, _, ed⟩, rfl⟩
    · rw [List.mem_singleton.mp hx, List.mem_singleton]
      exact Nat.ne_of_lt la
    · rw [List.mem_singleton.mp hx]; exact .head _
    · cases i with
      | succ i => simp at e1
      | zero =>
        simp at e1 e2
        subst e1 e2
        exact ⟨vs, ob, .tail _ (.head _), ⟨⟨ecls, n, ed⟩, rfl⟩, ints_are I⟩
    · have e : (match eqN n_script_ x with | true => some (AV.ref 0) | false => none) = some av := e
      split at e
      · rename_i q
        cases e
        rw [← eqN_iff.mp q]
        exact ⟨_, hm, by simp only [VR]; exact ⟨a, rfl, rfl⟩⟩
      · cases e
  refine hlaw (fun n => scope.names.lookup n) _ [h.objs.size] body V (fun n => rfl) hc A s [a] _ [a] _ Q E rfl R .refl D fun f h' tk γ' led' D' e' hf => ?_
  obtain ⟨v, rfl, hv⟩ := hf
  simp only [VR] at hv
  subst hv
  refine hQ h' tk fun b o eb => ?_
  by_cases q : b = a
  · subst q
    obtain ⟨nw, rfl, _⟩ := e'.pre
    obtain ⟨us, ob', m1, ⟨_, m2⟩, _⟩ := D'.rel.has 0 (intL xs) b rfl rfl
    have m2 : (b, ob') = (b, ob) := m2
    cases m2
    rw [eo] at eb
    cases eb
    exact D'.hold.at_ _ m1
  · refine D'.hold.keep b o ?_
    show (hole h a).get? b = some o
    rw [hole_ne q, eb]
end
end
section
theorem okLaw : PySem.Challenge.rw_on0023_01.wellSaid = true := by
  delta PySem.W.OpenLaw.wellSaid
  repeat' with_reducible refine look_both ?_ ?_
  all_goals (try (delta PySem.W.OpenRow.wellSaid; repeat' with_reducible refine look_both ?_ ?_))
  all_goals (try (delta PySem.W.OpenRow.partSaid; repeat' with_reducible refine look_both ?_ ?_))
  all_goals (try (delta PySem.W.looksOpen; repeat' with_reducible refine look_both ?_ ?_))
  all_goals decide +kernel
theorem J2 : PySem.Challenge.rw_on0023_01.Holds := by
  refine holds_law okLaw fun said => ?_
  refine holds_open (q := qL) (loose := looseL) (Xt := fun _ => true) (XP := fun _ _ => True) (Yf := (kHook KF KA KA_eq).obs) (Ya := (kHook KF KA KA_eq).val) (YP := (kHook KF KA KA_eq).says) (N := 5300) whole (kHook KF KA KA_eq).of (kHook KF KA KA_eq).keeps (fun _ _ => trivial) (fun _ _ _ _ _ => trivial) (by rfl) (by rfl) (by rfl) (fun s _ => recFacts_of (by rfl)) (by rfl) said (by decide +kernel) ⟨rfl, rfl, rfl, rfl, rfl, by decide +kernel⟩ ?hw ?hc
  case hw => exact ⟨[.list [.int 3]], by decide +kernel, by decide +kernel⟩
  intro w s₀ s₁ mg mb G Y fa o pm cd doc dV kV ho hd hcd hD hmg hg args vals as hpre hlay hrd hwl hlo
  have KX := kIn_of Y
  refine Ground.open G ?_
  intro T B D TE TW
  have TA := at_of_top T
  clear hmg
  wrow_args hpre hlay hrd hwl hlo
  all_goals (
    first | refine callC_kw (enter_call ?_) | refine enter_call ?_ | refine callC_kw (enter_callW ?_) | refine enter_callW ?_ | w_how
    w_top on
    try refine codeAny_mono ?_ (fun _ _ g => GoodW.toG g)
    have K0 := below_caller (Top.heap T)
    w_call any ho hd hcd hD T F
    clear hd TA)
  rename_i xs hs hlay0 hLay hr1 hl2 a4 a3 la us as2 hL ra w1 r0 hI hr hcond hcond2 h₁ N0
  refine join_core (a := la) (vs := us) KX T hL hI (by omega) F rfl (by kernel_rfl) rfl (by kernel_rfl) (by kernel_rfl) ⟨rfl, (by show callerA.depth + 1 + 202 < recursionLimit; decide), (by show callerA.units + 3 + 20 * 202 + 200 < cLine; decide)⟩ fun h' tk hk => ?_
  refine ⟨.inl ⟨.bool true, ofPy (.bool true), [], rfl, ?_, ?_, ?_, ?_⟩, hk, rfl, hg⟩
  · intro cls; rfl
  · exact readsW_of_reads (.bool true)
  · exact postW_of (by wrow_shape) (w_eq_bool (w_res rfl) w_lit) rfl
  · intro _; exact ⟨List.nodup_nil, fun _ h => nomatch h⟩
end
end Mine
theorem PySem.Challenge.cw_on0023_01_holds : PySem.Challenge.rw_on0023_01.Holds :=
  Mine.J2
