import PyProof.Rows.All
import Wide.All
import OpenK.AllK
import Wide.FinOn
import PySem.Challenge.RW_pq0696_01
open PySem PySem.W PyProof.Rows
set_option Elab.async false
set_option maxRecDepth 100000
set_option maxHeartbeats 8000000
namespace Mine
noncomputable abbrev PW : Program := PySem.Challenge.pw_pq0696_01
noncomputable abbrev S (x : String) : Str := Str.ofString x
noncomputable abbrev sV (x : String) (t : Nat) : Value := .str (Str.ofString x) t
noncomputable def stAt (i : Nat) : Stmt := PW.main.body.getD i (.Pass ⟨0, 0, 0, 0⟩)
noncomputable def fnA : Stmt → Arguments
  | .FunctionDef _ a _ _ _ _ _ _ _ _ => a
  | _ => ⟨[], [], none, [], [], none, []⟩
noncomputable def fnB : Stmt → List Stmt
  | .FunctionDef _ _ b _ _ _ _ _ _ _ => b
  | .ClassDef _ _ _ b _ _ _ _ _ _ _ => b
  | _ => []
noncomputable def fnS : Stmt → PySem.Scope
  | .FunctionDef _ _ _ _ _ _ s _ _ _ => s
  | _ => { kind := .module, names := [], isGenerator := false, isCoroutine := false, more := [] }
noncomputable def inCls (i j : Nat) : Stmt := (fnB (stAt i)).getD j (.Pass ⟨0, 0, 0, 0⟩)
noncomputable abbrev tupO (xs : List Value) (n : Nat) : Obj := { cls := .type "tuple", data := .seq xs.toArray n }
noncomputable abbrev codeO (xs : List Value) : Obj := { cls := .type "code", data := .fields xs.toArray }
noncomputable abbrev fnO (nm ql : String) (st : Stmt) (dV : Value) (mo : String) (mt : Nat) (cd : Addr) : Obj :=
  { cls := .type "function", data := .func (fnOf (S nm) (S ql) (fnA st) (fnB st) (fnS st) dV .none .none (sV mo mt) none (.ref cd) .none) }
noncomputable abbrev clsO (sl : List (Option Value)) (nm ql : String) (a ns : Addr) : Obj :=
  { cls := .type "type", data := .cls { name := S nm, bases := [.type "object"], mro := [.ref a, .type "object"], ns := ns, qualname := S ql }, slots := sl.toArray }
noncomputable abbrev dctO (P : Params) (es : List (String × Nat × Value)) (n : Nat) : Obj :=
  { cls := .type "dict", data := .dict (es.map fun e => ⟨PyData.keyHash P (S e.1), sV e.1 e.2.1, e.2.2⟩).toArray n }
noncomputable def KK (P : Params) : Frag := [
  (3, dctO P [("__name__", 165, sV "law_pq0696_01" 555), ("__doc__", 166, .none), ("__package__", 167, .none), ("__loader__", 168, .builtin "__main__.__loader__#opaque"), ("__spec__", 169, .none), ("__annotations__", 170, .ref 6), ("__builtins__", 171, .ref 4), ("__file__", 173, sV "/claim/cut.py" 172), ("__cached__", 174, .none), ("_wall", 193, .ref 21), ("is_expr", 203, .ref 28), ("head_of", 210, .ref 35), ("parts_of", 217, .ref 42), ("is_sym", 224, .ref 49), ("ASSIGNS", 235, .ref 50), ("INNER", 242, .ref 51), ("Cell", 271, .ref 69), ("Scope", 350, .ref 125), ("Names", 410, .ref 167), ("own_parts", 419, .ref 178), ("targets_of", 428, .ref 185), ("defined_by", 436, .ref 192), ("UPDATES", 447, .ref 193), ("FUNCTIONS", 452, .ref 194), ("SILENT", 458, .ref 195), ("put_once", 467, .ref 202), ("place_names", 478, .ref 209), ("function_head", 486, .ref 216), ("own_name", 494, .ref 223), ("parts_in_scope", 503, .ref 230), ("Bound", 544, .ref 254), ("bound_names", 554, .ref 265), ("_law_spring", 565, .ref 272), ("_law_drop", 574, .ref 279), ("_law_tree", 582, .ref 286), ("_law_name", 589, .ref 293), ("_law_place", 597, .ref 300), ("_law_some", 603, .ref 305), ("_law_drawn", 617, .ref 312), ("_law_targets", 623, .ref 317), ("_law_walk", 635, .ref 324), ("_law_note", 644, .ref 331), ("_law_opened_right", 650, .ref 336), ("law", 656, .ref 341)] 44),
  (27, codeO [sV "is_expr" 196, sV "is_expr" 197, sV "/claim/cut.py" 198, .int 5 0, .int 2 0, .int 0 0, .int 0 0, .int 3 0, .ref 22, .bool true, .int 181 0, .ref 23, .none, .ref 24, .ref 25, .ref 26, .int 201 0, .int 5 0, sV "/claim/cut.py" 202]),
  (28, fnO "is_expr" "is_expr" (stAt 2) (.none) "methodrows.forms" 194 27),
  (34, codeO [sV "head_of" 204, sV "head_of" 205, sV "/claim/cut.py" 206, .int 7 0, .int 1 0, .int 0 0, .int 0 0, .int 3 0, .ref 29, .bool true, .int 181 0, .ref 30, .none, .ref 31, .ref 32, .ref 33, .int 208 0, .int 7 0, sV "/claim/cut.py" 209]),
  (35, fnO "head_of" "head_of" (stAt 3) (.none) "methodrows.forms" 194 34),
  (41, codeO [sV "parts_of" 211, sV "parts_of" 212, sV "/claim/cut.py" 213, .int 9 0, .int 1 0, .int 0 0, .int 0 0, .int 3 0, .ref 36, .bool true, .int 181 0, .ref 37, .none, .ref 38, .ref 39, .ref 40, .int 215 0, .int 9 0, sV "/claim/cut.py" 216]),
  (42, fnO "parts_of" "parts_of" (stAt 4) (.none) "methodrows.forms" 194 41),
  (48, codeO [sV "is_sym" 218, sV "is_sym" 219, sV "/claim/cut.py" 220, .int 11 0, .int 1 0, .int 0 0, .int 0 0, .int 3 0, .ref 43, .bool true, .int 181 0, .ref 44, .none, .ref 45, .ref 46, .ref 47, .int 222 0, .int 11 0, sV "/claim/cut.py" 223]),
  (49, fnO "is_sym" "is_sym" (stAt 5) (.none) "methodrows.forms" 194 48),
  (50, tupO [sV "=" 227, sV "+=" 228, sV "-=" 229, sV "*=" 230, sV "//=" 231, sV "%=" 232, sV "|=" 233, sV "&=" 234] 0),
  (51, tupO [sV "->" 236, sV "let" 237, sV "comprehension" 238, sV "generator" 239, sV "quote" 240, sV "macro" 241] 0),
  (59, tupO [.none] 0),
  (65, codeO [sV "__init__" 255, sV "Cell.__init__" 256, sV "/claim/cut.py" 257, .int 18 0, .int 2 0, .int 0 0, .int 0 0, .int 3 0, .ref 60, .bool true, .int 181 0, .ref 61, .none, .ref 62, .ref 63, .ref 64, .int 260 0, .int 18 0, sV "/claim/cut.py" 261]),
  (66, fnO "__init__" "Cell.__init__" (inCls 9 0) (.ref 59) "methodrows.plain_scopes" 225 65),
  (68, dctO P [("__module__", 250, sV "methodrows.plain_scopes" 225), ("__firstlineno__", 254, .int 16 253), ("__init__", 262, .ref 66), ("__static_attributes__", 264, .ref 67), ("__dict__", 266, .ref 70), ("__weakref__", 268, .ref 71), ("__doc__", 269, .none)] 4),
  (69, clsO [none, none, some (sV "Cell" 243), some (sV "Cell" 251), some (.builtin "object.__new__"), some (.bool true)] "Cell" "Cell" 69 68),
  (86, codeO [sV "__init__" 284, sV "Scope.__init__" 285, sV "/claim/cut.py" 286, .int 22 0, .int 2 0, .int 0 0, .int 0 0, .int 3 0, .ref 81, .bool true, .int 181 0, .ref 82, .none, .ref 83, .ref 84, .ref 85, .int 289 0, .int 22 0, sV "/claim/cut.py" 290]),
  (87, fnO "__init__" "Scope.__init__" (inCls 10 0) (.none) "methodrows.plain_scopes" 225 86),
  (93, codeO [sV "find" 292, sV "Scope.find" 293, sV "/claim/cut.py" 294, .int 29 0, .int 2 0, .int 0 0, .int 0 0, .int 3 0, .ref 88, .bool true, .int 181 0, .ref 89, .none, .ref 90, .ref 91, .ref 92, .int 298 0, .int 29 0, sV "/claim/cut.py" 299]),
  (94, fnO "find" "Scope.find" (inCls 10 1) (.none) "methodrows.plain_scopes" 225 93),
  (100, codeO [sV "is_known" 301, sV "Scope.is_known" 302, sV "/claim/cut.py" 303, .int 39 0, .int 2 0, .int 0 0, .int 0 0, .int 3 0, .ref 95, .bool true, .int 181 0, .ref 96, .none, .ref 97, .ref 98, .ref 99, .int 307 0, .int 39 0, sV "/claim/cut.py" 308]),
  (101, fnO "is_known" "Scope.is_known" (inCls 10 2) (.none) "methodrows.plain_scopes" 225 100),
  (107, codeO [sV "bind" 310, sV "Scope.bind" 311, sV "/claim/cut.py" 312, .int 47 0, .int 3 0, .int 0 0, .int 0 0, .int 3 0, .ref 102, .bool true, .int 181 0, .ref 103, .none, .ref 104, .ref 105, .ref 106, .int 316 0, .int 47 0, sV "/claim/cut.py" 317]),
  (108, fnO "bind" "Scope.bind" (inCls 10 3) (.none) "methodrows.plain_scopes" 225 107),
  (121, codeO [sV "open_for" 327, sV "Scope.open_for" 328, sV "/claim/cut.py" 329, .int 53 0, .int 2 0, .int 0 0, .int 0 0, .int 3 0, .ref 116, .bool true, .int 181 0, .ref 117, .none, .ref 118, .ref 119, .ref 120, .int 335 0, .int 53 0, sV "/claim/cut.py" 336]),
  (122, fnO "open_for" "Scope.open_for" (inCls 10 5) (.none) "methodrows.plain_scopes" 225 121),
  (124, dctO P [("__module__", 279, sV "methodrows.plain_scopes" 225), ("__firstlineno__", 283, .int 20 282), ("__init__", 291, .ref 87), ("find", 300, .ref 94), ("is_known", 309, .ref 101), ("bind", 318, .ref 108), ("open_top", 326, .ref 115), ("open_for", 337, .ref 122), ("__static_attributes__", 343, .ref 123), ("__dict__", 345, .ref 126), ("__weakref__", 347, .ref 127), ("__doc__", 348, .none)] 4),
  (125, clsO [none, none, some (sV "Scope" 272), some (sV "Scope" 280), some (.builtin "object.__new__"), some (.bool true)] "Scope" "Scope" 125 124),
  (142, codeO [sV "__init__" 363, sV "Names.__init__" 364, sV "/claim/cut.py" 365, .int 65 0, .int 1 0, .int 0 0, .int 0 0, .int 3 0, .ref 137, .bool true, .int 181 0, .ref 138, .none, .ref 139, .ref 140, .ref 141, .int 367 0, .int 65 0, sV "/claim/cut.py" 368]),
  (143, fnO "__init__" "Names.__init__" (inCls 11 0) (.none) "methodrows.plain_scopes" 225 142),
  (149, codeO [sV "look" 370, sV "Names.look" 371, sV "/claim/cut.py" 372, .int 70 0, .int 2 0, .int 0 0, .int 0 0, .int 3 0, .ref 144, .bool true, .int 181 0, .ref 145, .none, .ref 146, .ref 147, .ref 148, .int 377 0, .int 70 0, sV "/claim/cut.py" 378]),
  (150, fnO "look" "Names.look" (inCls 11 1) (.none) "methodrows.plain_scopes" 225 149),
  (156, codeO [sV "told" 380, sV "Names.told" 381, sV "/claim/cut.py" 382, .int 84 0, .int 2 0, .int 0 0, .int 0 0, .int 3 0, .ref 151, .bool true, .int 181 0, .ref 152, .none, .ref 153, .ref 154, .ref 155, .int 387 0, .int 84 0, sV "/claim/cut.py" 388]),
  (157, fnO "told" "Names.told" (inCls 11 2) (.none) "methodrows.plain_scopes" 225 156),
  (163, codeO [sV "put" 390, sV "Names.put" 391, sV "/claim/cut.py" 392, .int 89 0, .int 3 0, .int 0 0, .int 0 0, .int 3 0, .ref 158, .bool true, .int 181 0, .ref 159, .none, .ref 160, .ref 161, .ref 162, .int 397 0, .int 89 0, sV "/claim/cut.py" 398]),
  (164, fnO "put" "Names.put" (inCls 11 3) (.none) "methodrows.plain_scopes" 225 163),
  (166, dctO P [("__module__", 358, sV "methodrows.plain_scopes" 225), ("__firstlineno__", 362, .int 63 361), ("__init__", 369, .ref 143), ("look", 379, .ref 150), ("told", 389, .ref 157), ("put", 399, .ref 164), ("__static_attributes__", 403, .ref 165), ("__dict__", 405, .ref 168), ("__weakref__", 407, .ref 169), ("__doc__", 408, .none)] 4),
  (167, clsO [none, none, some (sV "Names" 351), some (sV "Names" 359), some (.builtin "object.__new__"), some (.bool true)] "Names" "Names" 167 166),
  (177, codeO [sV "own_parts" 411, sV "own_parts" 412, sV "/claim/cut.py" 413, .int 93 0, .int 1 0, .int 0 0, .int 0 0, .int 3 0, .ref 172, .bool true, .int 181 0, .ref 173, .none, .ref 174, .ref 175, .ref 176, .int 417 0, .int 93 0, sV "/claim/cut.py" 418]),
  (178, fnO "own_parts" "own_parts" (stAt 12) (.none) "methodrows.plain_scopes" 225 177),
  (184, codeO [sV "targets_of" 420, sV "targets_of" 421, sV "/claim/cut.py" 422, .int 104 0, .int 1 0, .int 0 0, .int 0 0, .int 3 0, .ref 179, .bool true, .int 181 0, .ref 180, .none, .ref 181, .ref 182, .ref 183, .int 426 0, .int 104 0, sV "/claim/cut.py" 427]),
  (185, fnO "targets_of" "targets_of" (stAt 13) (.none) "methodrows.plain_scopes" 225 184),
  (191, codeO [sV "defined_by" 429, sV "defined_by" 430, sV "/claim/cut.py" 431, .int 114 0, .int 1 0, .int 0 0, .int 0 0, .int 3 0, .ref 186, .bool true, .int 181 0, .ref 187, .none, .ref 188, .ref 189, .ref 190, .int 434 0, .int 114 0, sV "/claim/cut.py" 435]),
  (192, fnO "defined_by" "defined_by" (stAt 14) (.none) "methodrows.plain_scopes" 225 191),
  (193, tupO [sV "=" 439, sV "+=" 440, sV "-=" 441, sV "*=" 442, sV "//=" 443, sV "%=" 444, sV "|=" 445, sV "&=" 446] 0),
  (194, tupO [sV "function" 448, sV "->" 449, sV "do" 450, sV "generated" 451] 0),
  (195, tupO [sV "quote" 453, sV "macro" 454, sV "struct" 455, sV "abstract" 456, sV "escape" 457] 0),
  (201, codeO [sV "put_once" 459, sV "put_once" 460, sV "/claim/cut.py" 461, .int 125 0, .int 2 0, .int 0 0, .int 0 0, .int 3 0, .ref 196, .bool true, .int 181 0, .ref 197, .none, .ref 198, .ref 199, .ref 200, .int 465 0, .int 125 0, sV "/claim/cut.py" 466]),
  (202, fnO "put_once" "put_once" (stAt 19) (.none) "methodrows.scopes" 437 201),
  (208, codeO [sV "place_names" 468, sV "place_names" 469, sV "/claim/cut.py" 470, .int 129 0, .int 1 0, .int 0 0, .int 0 0, .int 3 0, .ref 203, .bool true, .int 181 0, .ref 204, .none, .ref 205, .ref 206, .ref 207, .int 476 0, .int 129 0, sV "/claim/cut.py" 477]),
  (209, fnO "place_names" "place_names" (stAt 20) (.none) "methodrows.scopes" 437 208),
  (215, codeO [sV "function_head" 479, sV "function_head" 480, sV "/claim/cut.py" 481, .int 140 0, .int 1 0, .int 0 0, .int 0 0, .int 3 0, .ref 210, .bool true, .int 181 0, .ref 211, .none, .ref 212, .ref 213, .ref 214, .int 484 0, .int 140 0, sV "/claim/cut.py" 485]),
  (216, fnO "function_head" "function_head" (stAt 21) (.none) "methodrows.scopes" 437 215),
  (222, codeO [sV "own_name" 487, sV "own_name" 488, sV "/claim/cut.py" 489, .int 147 0, .int 1 0, .int 0 0, .int 0 0, .int 3 0, .ref 217, .bool true, .int 181 0, .ref 218, .none, .ref 219, .ref 220, .ref 221, .int 492 0, .int 147 0, sV "/claim/cut.py" 493]),
  (223, fnO "own_name" "own_name" (stAt 22) (.none) "methodrows.scopes" 437 222),
  (229, codeO [sV "parts_in_scope" 495, sV "parts_in_scope" 496, sV "/claim/cut.py" 497, .int 154 0, .int 1 0, .int 0 0, .int 0 0, .int 3 0, .ref 224, .bool true, .int 181 0, .ref 225, .none, .ref 226, .ref 227, .ref 228, .int 501 0, .int 154 0, sV "/claim/cut.py" 502]),
  (230, fnO "parts_in_scope" "parts_in_scope" (stAt 23) (.none) "methodrows.scopes" 437 229),
  (243, codeO [sV "__init__" 516, sV "Bound.__init__" 517, sV "/claim/cut.py" 518, .int 165 0, .int 1 0, .int 0 0, .int 0 0, .int 3 0, .ref 238, .bool true, .int 181 0, .ref 239, .none, .ref 240, .ref 241, .ref 242, .int 520 0, .int 165 0, sV "/claim/cut.py" 521]),
  (244, fnO "__init__" "Bound.__init__" (inCls 24 0) (.none) "methodrows.scopes" 437 243),
  (250, codeO [sV "note" 523, sV "Bound.note" 524, sV "/claim/cut.py" 525, .int 170 0, .int 2 0, .int 0 0, .int 0 0, .int 3 0, .ref 245, .bool true, .int 181 0, .ref 246, .none, .ref 247, .ref 248, .ref 249, .int 531 0, .int 170 0, sV "/claim/cut.py" 532]),
  (251, fnO "note" "Bound.note" (inCls 24 1) (.none) "methodrows.scopes" 437 250),
  (253, dctO P [("__module__", 511, sV "methodrows.scopes" 437), ("__firstlineno__", 515, .int 163 514), ("__init__", 522, .ref 244), ("note", 533, .ref 251), ("__static_attributes__", 537, .ref 252), ("__dict__", 539, .ref 255), ("__weakref__", 541, .ref 256), ("__doc__", 542, .none)] 4),
  (254, clsO [none, none, some (sV "Bound" 504), some (sV "Bound" 512), some (.builtin "object.__new__"), some (.bool true)] "Bound" "Bound" 254 253),
  (264, codeO [sV "bound_names" 545, sV "bound_names" 546, sV "/claim/cut.py" 547, .int 180 0, .int 1 0, .int 0 0, .int 0 0, .int 3 0, .ref 259, .bool true, .int 181 0, .ref 260, .none, .ref 261, .ref 262, .ref 263, .int 552 0, .int 180 0, sV "/claim/cut.py" 553]),
  (265, fnO "bound_names" "bound_names" (stAt 25) (.none) "methodrows.scopes" 437 264),
  (271, codeO [sV "_law_spring" 557, sV "_law_spring" 558, sV "/claim/cut.py" 559, .int 189 0, .int 2 0, .int 0 0, .int 0 0, .int 3 0, .ref 266, .bool true, .int 181 0, .ref 267, .none, .ref 268, .ref 269, .ref 270, .int 563 0, .int 189 0, sV "/claim/cut.py" 564]),
  (272, fnO "_law_spring" "_law_spring" (stAt 27) (.none) "law_pq0696_01" 555 271),
  (278, codeO [sV "_law_drop" 566, sV "_law_drop" 567, sV "/claim/cut.py" 568, .int 192 0, .int 2 0, .int 0 0, .int 0 0, .int 3 0, .ref 273, .bool true, .int 181 0, .ref 274, .none, .ref 275, .ref 276, .ref 277, .int 572 0, .int 192 0, sV "/claim/cut.py" 573]),
  (279, fnO "_law_drop" "_law_drop" (stAt 28) (.none) "law_pq0696_01" 555 278),
  (285, codeO [sV "_law_tree" 575, sV "_law_tree" 576, sV "/claim/cut.py" 577, .int 197 0, .int 2 0, .int 0 0, .int 0 0, .int 3 0, .ref 280, .bool true, .int 181 0, .ref 281, .none, .ref 282, .ref 283, .ref 284, .int 580 0, .int 197 0, sV "/claim/cut.py" 581]),
  (286, fnO "_law_tree" "_law_tree" (stAt 29) (.none) "law_pq0696_01" 555 285),
  (292, codeO [sV "_law_name" 583, sV "_law_name" 584, sV "/claim/cut.py" 585, .int 199 0, .int 1 0, .int 0 0, .int 0 0, .int 3 0, .ref 287, .bool true, .int 181 0, .ref 288, .none, .ref 289, .ref 290, .ref 291, .int 587 0, .int 199 0, sV "/claim/cut.py" 588]),
  (293, fnO "_law_name" "_law_name" (stAt 30) (.none) "law_pq0696_01" 555 292),
  (299, codeO [sV "_law_place" 590, sV "_law_place" 591, sV "/claim/cut.py" 592, .int 201 0, .int 1 0, .int 0 0, .int 0 0, .int 3 0, .ref 294, .bool true, .int 181 0, .ref 295, .none, .ref 296, .ref 297, .ref 298, .int 595 0, .int 201 0, sV "/claim/cut.py" 596]),
  (300, fnO "_law_place" "_law_place" (stAt 31) (.none) "law_pq0696_01" 555 299),
  (304, codeO [sV "_law_some" 598, sV "_law_some" 599, sV "/claim/cut.py" 600, .int 208 0, .int 3 0, .int 0 0, .int 0 0, .int 3 0, .ref 301, .bool true, .int 181 0, .ref 302, .none, .none, .none, .ref 303, .int 601 0, .int 208 0, sV "/claim/cut.py" 602]),
  (305, fnO "_law_some" "_law_some" (stAt 32) (.none) "law_pq0696_01" 555 304),
  (311, codeO [sV "_law_drawn" 604, sV "_law_drawn" 605, sV "/claim/cut.py" 606, .int 210 0, .int 2 0, .int 0 0, .int 0 0, .int 3 0, .ref 306, .bool true, .int 181 0, .ref 307, .none, .ref 308, .ref 309, .ref 310, .int 615 0, .int 210 0, sV "/claim/cut.py" 616]),
  (312, fnO "_law_drawn" "_law_drawn" (stAt 33) (.none) "law_pq0696_01" 555 311),
  (316, codeO [sV "_law_targets" 618, sV "_law_targets" 619, sV "/claim/cut.py" 620, .int 242 0, .int 1 0, .int 0 0, .int 0 0, .int 3 0, .ref 313, .bool true, .int 181 0, .ref 314, .none, .none, .none, .ref 315, .int 621 0, .int 242 0, sV "/claim/cut.py" 622]),
  (317, fnO "_law_targets" "_law_targets" (stAt 34) (.none) "law_pq0696_01" 555 316),
  (323, codeO [sV "_law_walk" 624, sV "_law_walk" 625, sV "/claim/cut.py" 626, .int 248 0, .int 2 0, .int 0 0, .int 0 0, .int 3 0, .ref 318, .bool true, .int 181 0, .ref 319, .none, .ref 320, .ref 321, .ref 322, .int 633 0, .int 248 0, sV "/claim/cut.py" 634]),
  (324, fnO "_law_walk" "_law_walk" (stAt 35) (.none) "law_pq0696_01" 555 323),
  (330, codeO [sV "_law_note" 636, sV "_law_note" 637, sV "/claim/cut.py" 638, .int 264 0, .int 2 0, .int 0 0, .int 0 0, .int 3 0, .ref 325, .bool true, .int 181 0, .ref 326, .none, .ref 327, .ref 328, .ref 329, .int 642 0, .int 264 0, sV "/claim/cut.py" 643]),
  (331, fnO "_law_note" "_law_note" (stAt 36) (.none) "law_pq0696_01" 555 330),
  (335, codeO [sV "_law_opened_right" 645, sV "_law_opened_right" 646, sV "/claim/cut.py" 647, .int 268 0, .int 2 0, .int 0 0, .int 0 0, .int 3 0, .ref 332, .bool true, .int 181 0, .ref 333, .none, .none, .none, .ref 334, .int 648 0, .int 268 0, sV "/claim/cut.py" 649]),
  (336, fnO "_law_opened_right" "_law_opened_right" (stAt 37) (.none) "law_pq0696_01" 555 335),
  (340, codeO [sV "law" 651, sV "law" 652, sV "/claim/cut.py" 653, .int 287 0, .int 1 0, .int 0 0, .int 0 0, .int 3 0, .ref 337, .bool true, .int 181 0, .ref 338, .none, .none, .none, .ref 339, .int 654 0, .int 287 0, sV "/claim/cut.py" 655]),
  (341, fnO "law" "law" (stAt 38) (.none) "law_pq0696_01" 555 340)]
noncomputable def KA : List Addr := [3, 27, 28, 34, 35, 41, 42, 48, 49, 50, 51, 59, 65, 66, 68, 69, 86, 87, 93, 94, 100, 101, 107, 108, 121, 122, 124, 125, 142, 143, 149, 150, 156, 157, 163, 164, 166, 167, 177, 178, 184, 185, 191, 192, 193, 194, 195, 201, 202, 208, 209, 215, 216, 222, 223, 229, 230, 243, 244, 250, 251, 253, 254, 264, 265, 271, 272, 278, 279, 285, 286, 292, 293, 299, 300, 304, 305, 311, 312, 316, 317, 323, 324, 330, 331, 335, 336, 340, 341]
theorem KA_eq (P : Params) : KA = (KK P).map (·.1) := by kernel_rfl
end Mine

open PySem PySem.W PyProof.Rows
set_option Elab.async false
set_option maxRecDepth 100000
set_option maxHeartbeats 8000000
namespace Mine
noncomputable def QQ : Program := { PW with main := { PW.main with body := [stAt 38] } }
abbrev RW : OpenRow := PySem.Challenge.rw_pq0696_01.row
noncomputable def LOOSE : List Str := [S "_wall", S "is_expr", S "head_of", S "parts_of", S "is_sym", S "ASSIGNS", S "INNER", S "Cell", S "Scope", S "Names", S "own_parts", S "targets_of", S "defined_by", S "UPDATES", S "FUNCTIONS", S "SILENT", S "put_once", S "place_names", S "function_head", S "own_name", S "parts_in_scope", S "Bound", S "bound_names", S "_law_spring", S "_law_drop", S "_law_tree", S "_law_name", S "_law_place", S "_law_some", S "_law_drawn", S "_law_targets", S "_law_walk", S "_law_note", S "_law_opened_right"]
theorem openT : ∀ w : World, (fencedOpening treeTable PW w 4318).map (fun s => (s.heap, s.gens, s.drawn, s.toks)) = some (boot_heap w.params, Array.mk [], boot_drawn, boot_toks) :=
  boot_open (by rfl) (by decide) (fun _ => by rfl)
theorem sizeT (w : World) : ((boot_heap w.params).isNs mainGlobals && (Array.mk [] : Array GenState).size == 0, (boot_heap w.params).objs.size, (boot_heap w.params).nsMap mainGlobals "__annotations__") = (true, 11, some (.ref 6)) := by kernel_rfl
-- the heap where the module's body begins: the booted one and four objects, as a tree
noncomputable def objsB (P : Params) : List Obj := [boot_o_0 P, boot_o_1 P, boot_o_2 P, boot_o_3 P, boot_o_4 P, boot_o_5 P, boot_o_6 P, boot_o_7 P, boot_o_8 P, boot_o_9 P, boot_o_10 P, tupO [] 0, { cls := .none, data := .fields #[] },
  codeO [sV "<module>" 182, sV "<module>" 183, sV "/claim/cut.py" 184, .int 1 0, .int 0 0, .int 0 0, .int 0 0, .int 0 0, .ref 11, .bool false, .int 181 0, .ref 12, .none, .none, .none, .none, .int 185 0, .int 1 0, sV "/claim/cut.py" 186], { cls := .type "frame", slots := [some (.ref 13), some (.ref 3), some (.ref 3), none, some (sV "__main__" 164), none, some (.ref 0)].toArray }]
noncomputable def growB : Nat → Nat → List Obj → BT
  | k + 1, d, o :: r => .node o (growB k (2 * d) (r.drop (d - 1))) (growB k (2 * d) (r.drop (2 * d - 1)))
  | _, _, _ => .nil
noncomputable def sB (P : Params) (os : OsState) : SharedT := ⟨growB 5 1 (objsB P), 15, (boot_heap P).life, Array.mk [], boot_drawn, 187, os⟩
noncomputable def envT : Env := { scope := PW.main.scope, locals := mainNs, globals := mainNs, cells := [], code := .ref 13, frame := some 14 }
noncomputable abbrev cdT : Code := .body PW.main.body envT
noncomputable abbrev p0 : Pos := ⟨0, 0, 0, 0⟩
noncomputable abbrev frT : List Frame := [topFrame p0]
noncomputable abbrev annT : Option Value := some (.ref 6)
noncomputable abbrev lookT (w : World) (s : Shared) : Bool := staticsOk (importedModules PW.main.body) (boot_heap w.params) s.heap && namesBound PW s.heap && gensDone s && laidKept (boot_heap w.params) s.heap
noncomputable abbrev seenT (s : Shared) := (openSeen QQ LOOSE (importedModules PW.main.body) (fun s => xlAt QQ [] s && recOk (RowW.records RW.toRowW) s) true s, KA.map s.heap.get?)
noncomputable abbrev goodT (w : World) := (openGood QQ LOOSE, (KK w.params).map fun p => some p.2)
theorem preT (w : World) (os : OsState) : topGo treeTable PW w 11 annT 12 ⟨boot_heap w.params, Array.mk [], boot_drawn, boot_toks, os⟩ (topStub PW) = some ((sB w.params os).abs, ⟨denote treeTable cdT, cdT, p0, frT⟩) := by kernel_rfl
theorem blockT (w : World) (s : Shared) : segRun treeTable PW w 11 annT 1 1 s (blockOf PW.main.body envT cdT p0 frT) = some (.next, s, cdT, p0) := by kernel_rfl
theorem bodyT (w : World) (os : OsState) : (segRunT treeTable PW w 11 annT 1 4303 (sB w.params os) (piecesOf PW.main.body envT cdT p0 frT)).map (fun x => (x.1, x.2.2, lookT w x.2.1.abs, seenT x.2.1.abs)) =
    some (.next, (cdT, ⟨287, 0, 302, 15⟩), true, goodT w) := by kernel_rfl
theorem endT (w : World) (s : Shared) (p : Pos) : topRun treeTable PW w 11 annT 2 s ⟨doneF .next, cdT, p, frT⟩ = some s := by
  cases s
  kernel_rfl
theorem runT (w : World) (os : OsState) : ∃ s, topRun treeTable PW w 11 annT 4318 ⟨boot_heap w.params, Array.mk [], boot_drawn, boot_toks, os⟩ (topStub PW) = some s ∧ lookT w s = true ∧ seenT s = goodT w := by
  obtain ⟨⟨f, s, c, q⟩, e, l⟩ := Option.map_eq_some_iff.mp (bodyT w os)
  obtain ⟨rfl, l⟩ := Prod.mk.inj l
  obtain ⟨m, l⟩ := Prod.mk.inj l
  obtain ⟨rfl, rfl⟩ := Prod.mk.inj m
  have k := piece_app (rest := []) (segRun_of e) (piece_nil (endT w s.abs _))
  rw [List.append_nil] at k
  exact ⟨s.abs, go_top (n := 12) (N := 1 + (4303 + 2)) (preT w os) (piece_block (n := 1) (blockT w _) k), Prod.mk.inj l⟩
theorem pick {α : Type} {A : Bool} {s : Shared} {F : Shared → α} {G : α} : A = true → F s = G → Option.map F (match A with | true => some s | false => none) = some G := by
  rintro rfl b
  exact congrArg some b
theorem topT (w : World) (os : OsState) : (topFrom treeTable PW w 4318 ⟨boot_heap w.params, Array.mk [], boot_drawn, boot_toks, os⟩).map seenT = some (goodT w) := by
  obtain ⟨s, r, a, b⟩ := runT w os
  obtain ⟨z, y⟩ := Prod.mk.inj (sizeT w)
  obtain ⟨y, x⟩ := Prod.mk.inj y
  simp only [topFrom, z, y, x, r, Option.bind_some]
  exact pick a b
theorem via {α β γ δ : Type} {o : Option α} {f : α → β} {b : β} {g : α → Option γ} {F : γ → δ} {c : Option δ} (h : o.map f = some b) (k : ∀ a, f a = b → (g a).map F = c) : (o.bind g).map F = c := by
  cases o with
  | none => cases h
  | some a => exact k a (Option.some.inj h)
theorem leftW (w : World) : (openEnds treeTable PW w 4318).map seenT = some (goodT w) := by
  unfold openEnds
  refine via (openT w) fun s e => ?_
  obtain ⟨h, g, d, k, os⟩ := s
  cases e
  exact topT w os
theorem leftT : LeftO PW QQ LOOSE (fun s => xlAt QQ [] s && recOk (RowW.records RW.toRowW) s) (fun s => KA.map s.heap.get?) (fun w => (KK w.params).map fun p => some p.2) 4318 true := leftW
end Mine

open PySem PySem.W PyProof.Rows
set_option Elab.async false
set_option maxRecDepth 100000
set_option maxHeartbeats 8000000
namespace Mine
noncomputable def fnP : Stmt → Pos
  | .FunctionDef _ _ _ _ _ _ _ _ _ p => p
  | _ => ⟨0, 0, 0, 0⟩
theorem KK_says (w : World) (s : Shared) (x : KA.map s.heap.get? = (KK w.params).map fun p => some p.2) : (KK w.params).In s.heap := Frag.in_of (KA_eq _) x
theorem lawDef : defOf QQ "law" = some (⟨"law", fnA (stAt 38), fnB (stAt 38), fnS (stAt 38), fnP (stAt 38)⟩, []) := by kernel_rfl
noncomputable abbrev lawD : DefRec := ⟨"law", fnA (stAt 38), fnB (stAt 38), fnS (stAt 38), fnP (stAt 38)⟩
theorem rowS : OpenRow.wellSaid PySem.Challenge.rw_pq0696_01.row = true := by kernel_rfl
theorem wellS : OpenLaw.wellSaid PySem.Challenge.rw_pq0696_01 = true := by
  unfold OpenLaw.wellSaid
  repeat' with_reducible refine look_both ?_ ?_
  · exact rowS
  all_goals kernel_rfl
theorem head (call : WalkO QQ LOOSE (XL QQ []) (fun w h => (KK w.params).In h) RW.toRowW lawD [] fun f vs => PySem.call f vs) : PySem.Challenge.rw_pq0696_01.Holds := by
  refine holds_law wellS fun said => ?_
  refine holds_open (r := RW) (q := QQ) (loose := LOOSE) (XP := XL QQ []) (YP := fun w h => (KK w.params).In h) (d := lawD) (kwd := []) leftT KK_says (fun w h h' x k => Frag.In.keeps x k) (fun s e => xl_of s (Bool.and_eq_true_iff.mp e).1) XL.keeps lawDef (by kernel_rfl) (by kernel_rfl) (fun s e => recFacts_of (Bool.and_eq_true_iff.mp e).2) (by rfl) (by first | assumption | decide +kernel) (by decide +kernel) ⟨rfl, rfl, rfl, rfl, rfl, by decide +kernel⟩ ?hw call
  w_witness2
end Mine

open PySem PySem.W PySem.Spec PySem.Calls PyProof.Rows
set_option Elab.async false
set_option maxRecDepth 100000
set_option maxHeartbeats 4000000
set_option linter.unusedVariables false
namespace Mine
noncomputable abbrev OP := Obj → Prop
noncomputable abbrev Led := List (Addr × OP)
/-- room on both stacks for n more frames -/
noncomputable def Room (n : Nat) (A : Around) : Prop := A.handled = none ∧ A.depth + n ≤ 800 ∧ A.units + 8 * n ≤ 9000 ∧ ∃ fs, A.frames = some fs
theorem Room.deeper {n : Nat} {A : Around} {env : Env} (R : Room (n + 1) A) : Room n (A.deeper env) :=
  ⟨R.1, by have := R.2.1; show A.depth + 1 + n ≤ 800; omega, by have := R.2.2.1; show A.units + 3 + 8 * n ≤ 9000; omega, let ⟨fs, e⟩ := R.2.2.2; ⟨env :: fs, Around.frames_deeper e⟩⟩
theorem Room.le {n k : Nat} {A : Around} (R : Room n A) (h : k ≤ n) : Room k A := ⟨R.1, by have := R.2.1; omega, by have := R.2.2.1; omega, R.2.2.2⟩
theorem Room.depth {n : Nat} {A : Around} (R : Room (n + 1) A) : A.depth < recursionLimit := by
  have := R.2.1; show A.depth < 1000; omega
structure Bs (w : World) (h : Heap) : Prop where
  kin : (KK w.params).In h
  top : ∃ p loose mg mb, TopRead p loose mg mb h
  seer : h.NoSeer
theorem Bs.keeps {w : World} {h h' : Heap} (B : Bs w h) (k : h.StaysIn h') : Bs w h' := ⟨B.kin.keeps k, let ⟨p, l, a, b, T⟩ := B.top; ⟨p, l, a, b, T.keeps k⟩, B.seer.keeps k⟩
theorem Bs.nolimit {w : World} {h : Heap} (B : Bs w h) : h.NoLimit := let ⟨_, _, _, _, T⟩ := B.top; T.nolimit
noncomputable abbrev LM := List (Str × Option Value)
noncomputable def mp (l : LM) (y : Str) : Option Value := (l.lookup y).join
theorem mp_cons (x : Str) (v : Value) (l : LM) : (fun y => if y = x then some v else mp l y) = mp ((x, some v) :: l) := by
  funext y
  unfold mp
  rw [List.lookup_cons]
  by_cases h : y = x
  · subst h; simp
  · have : (y == x) = false := by simpa using h
    rw [if_neg h, this]
theorem mp_some {l : LM} {x : Str} {v : Value} (h : l.lookup x = some (some v)) : mp l x = some v := by unfold mp; rw [h]; rfl
theorem mp_binds (b : List (Str × Value)) : (fun y => b.lookup y) = mp (b.map fun x => (x.1, some x.2)) := by
  funext y
  unfold mp
  induction b with
  | nil => rfl
  | cons x r ih =>
    rw [List.map_cons, List.lookup_cons, List.lookup_cons]
    cases y == x.1 with
    | true => rfl
    | false => exact ih
noncomputable def Has (h : Heap) (p : Addr × OP) : Prop := ∃ o, h.get? p.1 = some o ∧ p.2 o
structure St (w : World) (g : Heap) (L : Addr) (l : LM) (led : Led) (h : Heap) : Prop where
  B : Bs w g
  F : Fr g L h (mp l)
  N : ∀ p ∈ led, Has h p ∧ p.1 ≠ L ∧ g.get? p.1 = none
section
variable {w : World} {g : Heap} {L : Addr} {l : LM} {led : Led} {h h' : Heap}
theorem St.kin (S : St w g L l led h) : (KK w.params).In h := S.B.kin.keeps S.F.keep
theorem St.low (S : St w g L l led h) : h.get? L ≠ none := by
  obtain ⟨o, _, _, e, _⟩ := S.F.ns; rw [e]; exact fun x => by cases x
/-- all that was kept is kept -/
theorem St.keeps (S : St w g L l led h) (k : h.StaysIn h') : St w g L l led h' :=
  ⟨S.B, ⟨S.F.ns.keeps k, fun b o e => k b o (S.F.keep b o e), S.F.above⟩, fun p hp => ⟨let ⟨o, e, r⟩ := (S.N p hp).1; ⟨o, k _ _ e, r⟩, (S.N p hp).2⟩⟩
theorem St.sub {led' : Led} (S : St w g L l led h) (k : ∀ p ∈ led', p ∈ led) : St w g L l led' h := ⟨S.B, S.F, fun p hp => S.N p (k p hp)⟩
/-- the rest is kept; what is at W is told anew -/
theorem St.but {led' : Led} {W : List Addr} (S : St w g L l led h) (k : ∀ b o, b ∉ W → h.get? b = some o → h'.get? b = some o)
    (hW : ∀ a ∈ W, a ≠ L ∧ g.get? a = none) (n : ∀ p ∈ led', (p ∈ led ∧ p.1 ∉ W) ∨ (p.1 ∈ W ∧ Has h' p)) : St w g L l led' h' := by
  have nL : L ∉ W := fun q => (hW L q).1 rfl
  refine ⟨S.B, ⟨?_, fun b o e => k b o (fun q => ?_) (S.F.keep b o e), S.F.above⟩, fun p hp => ?_⟩
  · obtain ⟨o, es, ep, e, r⟩ := S.F.ns; exact ⟨o, es, ep, k _ _ nL e, r⟩
  · rw [(hW b q).2] at e; cases e
  · rcases n p hp with ⟨q, q'⟩ | ⟨q, q'⟩
    · obtain ⟨⟨o, e, r⟩, z⟩ := S.N p q; exact ⟨⟨o, k _ _ q' e, r⟩, z⟩
    · exact ⟨q', hW _ q⟩
theorem St.add {a : Addr} {P : OP} (S : St w g L l led h) (e : Has h (a, P)) (hL : a ≠ L) (hg : g.get? a = none) : St w g L l ((a, P) :: led) h :=
  ⟨S.B, S.F, fun p hp => by rcases List.mem_cons.mp hp with rfl | hp; exact ⟨e, hL, hg⟩; exact S.N p hp⟩
theorem St.fresh (S : St w g L l led h) : g.get? h.objs.size = none ∧ h.objs.size ≠ L ∧ ∀ p ∈ led, p.1 ≠ h.objs.size := by
  refine ⟨?_, ?_, fun p hp => ?_⟩
  · cases q : g.get? h.objs.size with
    | none => rfl
    | some o => exact absurd (Heap.lt_size (S.F.keep _ _ q)) (Nat.lt_irrefl _)
  · obtain ⟨o, _, _, e, _⟩ := S.F.ns; exact Nat.ne_of_gt (Heap.lt_size e)
  · obtain ⟨⟨o, e, _⟩, _⟩ := S.N p hp; exact Nat.ne_of_lt (Heap.lt_size e)
end

/-- the state with another heap -/
noncomputable def up (s : Shared) (h : Heap) (tk : Nat) : Shared := { s with heap := h, toks := tk }
theorem up_self (s : Shared) : s = up s s.heap s.toks := rfl
theorem up_up (s : Shared) (h h' : Heap) (tk tk' : Nat) : up (up s h tk) h' tk' = up s h' tk' := rfl
noncomputable def retK (Q : Value → Shared → Prop) : Flow → Shared → Prop := fun fl s' => Q (match fl with | .ret v => v | _ => .none) s'
theorem retK_ret {Q : Value → Shared → Prop} {v : Value} {s : Shared} (h : Q v s) : retK Q (.ret v) s := h
theorem retK_next {Q : Value → Shared → Prop} {s : Shared} (h : Q .none s) : retK Q .next s := h
/-- what a call leaves: the caller's heap but at W, and Φ -/
noncomputable def Ret (s : Shared) (W : List Addr) (Φ : Value → Heap → Prop) (r : Value) (s' : Shared) : Prop :=
  ∃ h' tk, s' = up s h' tk ∧ (∀ b o, b ∉ W → s.heap.get? b = some o → h'.get? b = some o) ∧ Φ r h'
noncomputable abbrev NoE : Value → Shared → Prop := fun _ _ => False

section
variable {w : World} {A : Around} {E : Value → Shared → Prop} {s : Shared} {h₀ g : Heap} {L a : Addr} {l : LM} {led : Led} {cn : Str} {cs : PySem.Scope} {ccd : Value} {cl : List (Str × Addr)}
theorem r_enter {f : Addr} {nm ql : String} {st : Stmt} {dV : Value} {mo : String} {mt : Nat} {cd : Addr} {args : List Value} {binds : List (Str × Value)} {Q : Value → Shared → Prop} {n : Nat}
    (ho : (KK w.params).lookup f = some (fnO nm ql st dV mo mt cd)) (hcd : codeIn (KK w.params) (.ref cd) (S ql) = true) (R : Room (n + 1) A) (B : Bs w h₀) (k₀ : h₀.StaysIn s.heap)
    (W : Led) (hW : ∀ p ∈ W, Has s.heap p ∧ h₀.get? p.1 = none)
    (hbind : BindsTo s (fnOf (S nm) (S ql) (fnA st) (fnB st) (fnS st) dV .none .none (sV mo mt) none (.ref cd) .none) ⟨args, []⟩ binds)
    (hloc : ∀ y ∈ binds, (fnS st).names.lookup y.1 = some .local)
    (hk : (fnS st).kind = .function) (hco : (fnS st).isCoroutine = false) (hgen : (fnS st).isGenerator = false) (hcell : ∀ x ∈ (fnS st).names, x.2 ≠ .cell)
    (h : ∀ g L h₁ tk, St w g L (binds.reverse.map fun x => (x.1, some x.2)) W h₁ → h₀.StaysIn g → (∀ b o, b ∉ W.map (·.1) → s.heap.get? b = some o → g.get? b = some o) → (∀ b o, g.get? b = some o → s.heap.get? b = some o) →
      s.heap.StaysIn h₁ → Room n (A.deeper (envX (S ql) (fnS st) L f (.ref cd) [])) →
      wpAny (model PW w) (A.deeper (envX (S ql) (fnS st) L f (.ref cd) [])) (execs (fnB st) (envX (S ql) (fnS st) L f (.ref cd) []))
        (retK Q) NoE (up s h₁ tk)) :
    wpAny (model PW w) A (call (.ref f) args) Q E s := by
  have B' := B.keeps k₀
  refine wpAny_call (codeAny_call_def (fd := fnOf (S nm) (S ql) (fnA st) (fnB st) (fnS st) dV .none .none (sV mo mt) none (.ref cd) .none) (body := fnB st) (binds := binds) R.depth (B'.kin _ _ ho) rfl B'.nolimit (codeRec_of B'.kin hcd) rfl hbind hcell hloc (fun h₁ hns hk₁ => ?_) hco hgen hk)
  have nW : ∀ b o, h₀.get? b = some o → b ∉ W.map (·.1) := fun b o e q => by
    obtain ⟨p, hp, rfl⟩ := List.mem_map.mp q
    rw [(hW p hp).2] at e; cases e
  have kg : h₀.StaysIn (hideAll s.heap (W.map (·.1))) := fun b o e => hideAll_get _ (k₀ b o e) (nW b o e)
  refine wpAny_mono (h (hideAll s.heap (W.map (·.1))) s.heap.objs.size h₁ _ ⟨B.keeps kg, ⟨?_, fun b o e => hk₁ b o (of_hideAll _ e), Nat.le_of_eq (hideAll_size _ _)⟩, fun p hp => ?_⟩ kg (fun b o nb e => hideAll_get _ e nb) (fun b o e => of_hideAll _ e) hk₁ R.deeper) (fun _ _ x => x) fun _ _ x => x.elim
  · have := mp_binds binds.reverse
    rw [← this]; exact hns
  · obtain ⟨⟨o, e, r⟩, _⟩ := hW p hp
    exact ⟨⟨o, hk₁ _ _ e, r⟩, Nat.ne_of_lt (Heap.lt_size e), hideAll_none _ (List.mem_map_of_mem hp)⟩
/-- what a cell's own words are -/
noncomputable def isCell (v : Value) : OP := fun o => o.data = .cell (some v)
theorem r_enterC {f : Addr} {nm ql : String} {st : Stmt} {dV : Value} {mo : String} {mt : Nat} {cd : Addr} {args : List Value} {binds : List (Str × Value)} {Q : Value → Shared → Prop} {n : Nat}
    (ho : (KK w.params).lookup f = some (fnO nm ql st dV mo mt cd)) (hcd : codeIn (KK w.params) (.ref cd) (S ql) = true) (R : Room (n + 1) A) (B : Bs w h₀) (k₀ : h₀.StaysIn s.heap)
    (W : Led) (hW : ∀ p ∈ W, Has s.heap p ∧ h₀.get? p.1 = none)
    (hbind : BindsTo s (fnOf (S nm) (S ql) (fnA st) (fnB st) (fnS st) dV .none .none (sV mo mt) none (.ref cd) .none) ⟨args, []⟩ binds)
    (hkind : (binds.all fun y => (fnS st).names.lookup y.1 == some .local || (fnS st).names.lookup y.1 == some .cell) = true)
    (hnd : ((cellsFrom 0 (fnS st).names []).map (·.1)).Nodup)
    (hk : (fnS st).kind = .function) (hco : (fnS st).isCoroutine = false) (hgen : (fnS st).isGenerator = false)
    (h : ∀ g L h₁ tk cells, Bs w g → Fr g L h₁ (bindL (envOfC (S ql) (fnS st) L f (.ref cd)).kindOf binds fun _ => none) → CellsAre (bindC (envOfC (S ql) (fnS st) L f (.ref cd)).kindOf binds fun _ => none) (cellsFrom (L + 1) (fnS st).names []) cells →
      (∀ p ∈ cells, h₁.get? p.1 = some p.2 ∧ p.1 ≠ L ∧ g.get? p.1 = none) → (∀ p ∈ W, Has h₁ p ∧ p.1 ≠ L ∧ g.get? p.1 = none) → (∀ p ∈ W, p.1 < L) →
      h₀.StaysIn g → (∀ b o, b ∉ W.map (·.1) → s.heap.get? b = some o → g.get? b = some o) → (∀ b o, g.get? b = some o → s.heap.get? b = some o) →
      s.heap.StaysIn h₁ → Room n (A.deeper (envOfC (S ql) (fnS st) L f (.ref cd))) →
      wpAny (model PW w) (A.deeper (envOfC (S ql) (fnS st) L f (.ref cd))) (execs (fnB st) (envOfC (S ql) (fnS st) L f (.ref cd)))
        (retK Q) NoE (up s h₁ tk)) :
    wpAny (model PW w) A (call (.ref f) args) Q E s := by
  have B' := B.keeps k₀
  refine wpAny_call (codeAny_call_function (fd := fnOf (S nm) (S ql) (fnA st) (fnB st) (fnS st) dV .none .none (sV mo mt) none (.ref cd) .none) (body := fnB st) R.depth (B'.kin _ _ ho) rfl hco hgen rfl (codeRec_of B'.kin hcd) (hbind _ _ _ _ ?_))
  refine wpAny_newFunctionEnv_cells hk (kindsX hkind _) fun env' he s' x => ?_
  subst he
  refine ⟨B'.nolimit.keeps x.toInCall.keep, codeAny_func ?_⟩
  obtain ⟨h₁, tk, rfl, _⟩ := x.done
  have hk₁ : s.heap.StaysIn h₁ := x.toInCall.keep
  have nW : ∀ b o, h₀.get? b = some o → b ∉ W.map (·.1) := fun b o e q => by
    obtain ⟨p, hp, rfl⟩ := List.mem_map.mp q
    rw [(hW p hp).2] at e; cases e
  have kg : h₀.StaysIn (hideAll s.heap (W.map (·.1))) := fun b o e => hideAll_get _ (k₀ b o e) (nW b o e)
  obtain ⟨cells, NC, Y⟩ := Cl.news (h₀ := s.heap) (Nat.le_refl _) fun n c hm => ⟨x.cell n c (lookup_of_mem_nodup (cellsFrom_names (fnS st).names 0 (s.heap.objs.size + 1) [] [] rfl ▸ hnd) hm), x.above n c hm⟩
  refine wpAny_mono (h (hideAll s.heap (W.map (·.1))) s.heap.objs.size h₁ tk cells (B.keeps kg) ⟨x.toInCall.ns, fun b o e => hk₁ b o (of_hideAll _ e), Nat.le_of_eq (hideAll_size _ _)⟩ Y (fun p hp => ⟨(NC p hp).1, (NC p hp).2.1, ?_⟩) (fun p hp => ?_) (fun p hp => ?_) kg (fun b o nb e => hideAll_get _ e nb) (fun b o e => of_hideAll _ e) hk₁ R.deeper) (fun _ _ x => x) fun _ _ x => x.elim
  · cases q : (hideAll s.heap (W.map (·.1))).get? p.1 with
    | none => rfl
    | some o => have := of_hideAll _ q; rw [(NC p hp).2.2] at this; cases this
  · obtain ⟨⟨o, e, r⟩, _⟩ := hW p hp
    exact ⟨⟨o, hk₁ _ _ e, r⟩, Nat.ne_of_lt (Heap.lt_size e), hideAll_none _ (List.mem_map_of_mem hp)⟩
  · obtain ⟨⟨o, e, r⟩, _⟩ := hW p hp; exact Heap.lt_size e
/-- a call by its contract -/
theorem r_use {t : Sem Value} {W : List Addr} {Φ : Value → Heap → Prop} {Q : Value → Shared → Prop} {E' : Value → Shared → Prop} {M : Model} {h : Heap} {tk : Nat} (sp : wpAny M A t (Ret (up s h tk) W Φ) NoE (up s h tk))
    (k : ∀ r h' tk', (∀ b o, b ∉ W → h.get? b = some o → h'.get? b = some o) → Φ r h' → Q r (up s h' tk')) : wpAny M A t Q E' (up s h tk) :=
  wpAny_mono sp (fun r s' ⟨h', tk', e, k', φ⟩ => e ▸ k r h' tk' k' φ) fun _ _ x => x.elim
/-- at the end of a body -/
theorem r_ret {W : List Addr} {Φ : Value → Heap → Prop} {s₀ : Shared} {v : Value} {h' : Heap} {tk : Nat} (S : St w g L l led h') (kg : ∀ b o, b ∉ W → s₀.heap.get? b = some o → g.get? b = some o) (φ : Φ v h') :
    Ret s₀ W Φ v (up s₀ h' tk) := ⟨h', tk, rfl, fun b o nb e => S.F.keep b o (kg b o nb e), φ⟩

theorem r_loc {M : Model} {x : Str} {pos : Pos} {v : Value} {Q : Value → Shared → Prop} (S : St w g L l led s.heap) (hv : l.lookup x = some (some v)) (h : Q v s)
    (hk : cs.kind = .function) (hx : (envX cn cs L a ccd cl).kindOf x = some .local) (hd : (x == ("__debug__" : Str)) = false) : wpAny M A (eval (.Name x pos) (envX cn cs L a ccd cl)) Q E s :=
  nameX_L S.F (mp_some hv) h hk hx hd
theorem r_glob {M : Model} {x : Str} {pos : Pos} {v : Value} {Q : Value → Shared → Prop} (S : St w g L l led s.heap) (e : nsIn (KK w.params) mainGlobals x = some (some v)) (h : Q v s)
    (hk : cs.kind = .function) (hx : (envX cn cs L a ccd cl).kindOf x = some .globalImplicit) (hd : (x == ("__debug__" : Str)) = false) : wpAny M A (eval (.Name x pos) (envX cn cs L a ccd cl)) Q E s := by
  obtain ⟨_, _, _, _, T⟩ := S.B.top
  exact nameX_K S.F S.B.kin T e h hk hx hd
theorem r_blt {M : Model} {x : Str} {pos : Pos} {v : Value} {Q : Value → Shared → Prop} (S : St w g L l led s.heap) (e : nsIn (KK w.params) mainGlobals x = some none) (hv : bootBuiltins x = some v) (hn : x ≠ "__name__") (h : Q v s)
    (hk : cs.kind = .function) (hx : (envX cn cs L a ccd cl).kindOf x = some .globalImplicit) (hd : (x == ("__debug__" : Str)) = false) : wpAny M A (eval (.Name x pos) (envX cn cs L a ccd cl)) Q E s := by
  obtain ⟨_, _, _, _, T⟩ := S.B.top
  exact nameX_B S.F S.B.kin T e hv hn h hk hx hd
theorem r_store {M : Model} {x : Str} {v : Value} {h : Heap} {tk : Nat} {Q : Unit → Shared → Prop} (S : St w g L l led h)
    (k : ∀ h' tk', St w g L ((x, some v) :: l) led h' → (∀ b o, b ≠ L → h.get? b = some o → h'.get? b = some o) → Q () (up s h' tk'))
    (hk : cs.kind = .function) (hx : (envX cn cs L a ccd cl).kindOf x = some .local) : wpAny M A (storeName (envX cn cs L a ccd cl) x v) Q E (up s h tk) := by
  refine wpAny_storeName_local hx S.F.ns (fun h' hn hs => k h' _ ⟨S.B, ?_, fun p hp => ?_⟩ fun b o nb e => (hs.2 b nb).trans e) (by show (cs.kind == .class || (cs.kind == .module && L != mainGlobals)) = false; rw [hk]; rfl)
  · rw [← mp_cons]; exact S.F.set hn hs
  · obtain ⟨⟨o, e, r⟩, z⟩ := S.N p hp; exact ⟨⟨o, (hs.2 _ z.1).trans e, r⟩, z⟩
noncomputable abbrev tupNew (vs : List Value) : Obj := { cls := .type "tuple", data := .seq vs.toArray }
noncomputable abbrev lstNew (vs : List Value) : Obj := { cls := .type "list", data := .seq vs.toArray }
theorem r_newTuple {M : Model} {vs : List Value} {h : Heap} {tk : Nat} {Q : Value → Shared → Prop} (k : ∀ h' a, h.StaysIn h' → a = h.objs.size → h'.get? a = some (tupNew vs) → Q (.ref a) (up s h' tk)) (hsz : vs.length ≤ sizeLine) : wpAny M A (newTuple vs) Q E (up s h tk) :=
  wpAny_newObj_type (k _ _ (fun b o e => Heap.get?_push_of_some _ e) rfl (Heap.get?_push_size _ rfl)) (by show vs.toArray.size ≤ sizeLine; rw [List.size_toArray]; exact hsz)
theorem r_newList {M : Model} {vs : List Value} {h : Heap} {tk : Nat} {Q : Value → Shared → Prop} (k : ∀ h' a, h.StaysIn h' → a = h.objs.size → h'.get? a = some (lstNew vs) → Q (.ref a) (up s h' tk)) (hsz : vs.length ≤ sizeLine) : wpAny M A (newList vs) Q E (up s h tk) :=
  wpAny_newObj_type (k _ _ (fun b o e => Heap.get?_push_of_some _ e) rfl (Heap.get?_push_size _ rfl)) (by show vs.toArray.size ≤ sizeLine; rw [List.size_toArray]; exact hsz)
theorem r_str {M : Model} {x : Str} {k : Nat} {pos : Pos} {env : Env} {h : Heap} {tk : Nat} {Q : Value → Shared → Prop} (q : ∀ t tk', Q (.str x t) (up s h tk')) : wpAny M A (eval (.Constant (.str x) k pos) env) Q E (up s h tk) := Constant_str (q _ _)
theorem r_int {M : Model} {i : Int} {k : Nat} {pos : Pos} {env : Env} {h : Heap} {tk : Nat} {Q : Value → Shared → Prop} (q : ∀ t tk', Q (.int i t) (up s h tk')) : wpAny M A (eval (.Constant (.int i) k pos) env) Q E (up s h tk) := wpAny_Constant_int (q _ _)
/-- behind a statement -/
noncomputable def seqK (M : Model) (A : Around) (env : Env) (rest : List Stmt) (Q : Flow → Shared → Prop) (E : Value → Shared → Prop) : Flow → Shared → Prop := fun f s' => match f with | .next => wpAny M A (execs rest env) Q E s' | f => Q f s'
section
variable {M : Model} {env : Env} {rest : List Stmt} {Q : Flow → Shared → Prop}
theorem seqK_next (h : wpAny M A (execs rest env) Q E s) : seqK M A env rest Q E .next s := h
theorem seqK_ret {v : Value} (h : Q (.ret v) s) : seqK M A env rest Q E (.ret v) s := h
theorem seqK_cont (h : Q .cont s) : seqK M A env rest Q E .cont s := h
theorem seqK_brk (h : Q .brk s) : seqK M A env rest Q E .brk s := h
theorem x_cons {st : Stmt} (h : wpAny M A (exec st env) (seqK M A env rest Q E) E s) : wpAny M A (execs (st :: rest) env) Q E s := wpAny_execs_cons h
theorem x_ret {e : Expr} {pos : Pos} (h : wpAny M A (eval e env) (fun v => Q (.ret v)) E s) : wpAny M A (execs (.Return (some e) pos :: rest) env) Q E s := wpAny_execs_cons (wpAny_Return_some h)
theorem x_asg {x : Str} {p pos : Pos} {e : Expr} (h : wpAny M A (eval e env) (fun v s₁ => wpAny M A (storeName env x v) (fun _ s₂ => wpAny M A (execs rest env) Q E s₂) E s₁) E s)
    (hs : swapsWith e (some (.Name x p)) pos.line env = pure false) : wpAny M A (execs (.Assign [.Name x p] e pos :: rest) env) Q E s := wpAny_execs_cons (wpAny_Assign_Name h hs)
theorem x_if {test : Expr} {body orelse : List Stmt} {pos : Pos} (h : wpAny M A (isTrue test env (eval test env)) (fun b s₂ => if b then wpAny M A (execs body env) (seqK M A env rest Q E) E s₂ else wpAny M A (execs orelse env) (seqK M A env rest Q E) E s₂) E s) :
    wpAny M A (execs (.If test body orelse pos :: rest) env) Q E s := wpAny_execs_cons (wpAny_If h)
theorem x_cont {pos : Pos} (h : Q .cont s) : wpAny M A (execs (.Continue pos :: rest) env) Q E s := wpAny_execs_cons (wpAny_Continue h)
end
theorem x_expr {env : Env} {rest : List Stmt} {Q : Flow → Shared → Prop} {e : Expr} {pos : Pos} (h : wpAny (model PW w) A (eval e env) (fun _ s₂ => wpAny (model PW w) A (execs rest env) Q E s₂) E s)
    (hi : interactive env = false) (hs : swapsWith e none pos.line env = pure false) : wpAny (model PW w) A (execs (.Expr e pos :: rest) env) Q E s := wpAny_execs_cons (wpAny_Expr_any h hi hs)
/-- f(args): f a def of the text -/
theorem r_call {f : Addr} {x : Str} {xp pos : Pos} {e : Expr} {rest : List Expr} {Q : Value → Shared → Prop} (S : St w g L l led s.heap) (eg : nsIn (KK w.params) mainGlobals x = some (some (.ref f))) (hf : keepIn (KK w.params) (.ref f) = true)
    (hk : cs.kind = .function) (hx : (envX cn cs L a ccd cl).kindOf x = some .globalImplicit) (hd : (x == ("__debug__" : Str)) = false)
    (he : starEach (e :: rest) (envX cn cs L a ccd cl) = (false, eval e (envX cn cs L a ccd cl)) :: starEach rest (envX cn cs L a ccd cl)) (hplain : (backTo pos (starEach rest (envX cn cs L a ccd cl))).any (·.1) = false)
    (h : wpAny (model PW w) A (spliced (backTo pos (starEach (e :: rest) (envX cn cs L a ccd cl)))) (fun vs s₁ => (KK w.params).In s₁.heap ∧ wpAny (model PW w) A (call (.ref f) vs) Q E s₁) E s)
    (heq : eval (.Call (.Name x xp) (e :: rest) [] pos) (envX cn cs L a ccd cl) = (do callWith pos (← eval (.Name x xp) (envX cn cs L a ccd cl)) [] (backTo pos (starEach (e :: rest) (envX cn cs L a ccd cl))) (backToKw pos (keywordEach [] (envX cn cs L a ccd cl))))) :
    wpAny (model PW w) A (eval (.Call (.Name x xp) (e :: rest) [] pos) (envX cn cs L a ccd cl)) Q E s :=
  Call_ (r_glob S eg (callWith_K S.kin hf h he hplain) hk hx hd) heq
end

theorem f28 (P : Params) : (KK P).lookup 28 = some (fnO "is_expr" "is_expr" (stAt 2) (.none) "methodrows.forms" 194 27) := by kernel_rfl
theorem c28 (P : Params) : codeIn (KK P) (.ref 27) (S "is_expr") = true := by kernel_rfl
theorem kp28 (P : Params) : keepIn (KK P) (.ref 28) = true := by kernel_rfl
theorem f35 (P : Params) : (KK P).lookup 35 = some (fnO "head_of" "head_of" (stAt 3) (.none) "methodrows.forms" 194 34) := by kernel_rfl
theorem c35 (P : Params) : codeIn (KK P) (.ref 34) (S "head_of") = true := by kernel_rfl
theorem kp35 (P : Params) : keepIn (KK P) (.ref 35) = true := by kernel_rfl
theorem f42 (P : Params) : (KK P).lookup 42 = some (fnO "parts_of" "parts_of" (stAt 4) (.none) "methodrows.forms" 194 41) := by kernel_rfl
theorem c42 (P : Params) : codeIn (KK P) (.ref 41) (S "parts_of") = true := by kernel_rfl
theorem kp42 (P : Params) : keepIn (KK P) (.ref 42) = true := by kernel_rfl
theorem f49 (P : Params) : (KK P).lookup 49 = some (fnO "is_sym" "is_sym" (stAt 5) (.none) "methodrows.forms" 194 48) := by kernel_rfl
theorem c49 (P : Params) : codeIn (KK P) (.ref 48) (S "is_sym") = true := by kernel_rfl
theorem kp49 (P : Params) : keepIn (KK P) (.ref 49) = true := by kernel_rfl
theorem f66 (P : Params) : (KK P).lookup 66 = some (fnO "__init__" "Cell.__init__" (inCls 9 0) (.ref 59) "methodrows.plain_scopes" 225 65) := by kernel_rfl
theorem c66 (P : Params) : codeIn (KK P) (.ref 65) (S "Cell.__init__") = true := by kernel_rfl
theorem kp66 (P : Params) : keepIn (KK P) (.ref 66) = true := by kernel_rfl
theorem f87 (P : Params) : (KK P).lookup 87 = some (fnO "__init__" "Scope.__init__" (inCls 10 0) (.none) "methodrows.plain_scopes" 225 86) := by kernel_rfl
theorem c87 (P : Params) : codeIn (KK P) (.ref 86) (S "Scope.__init__") = true := by kernel_rfl
theorem kp87 (P : Params) : keepIn (KK P) (.ref 87) = true := by kernel_rfl
theorem f94 (P : Params) : (KK P).lookup 94 = some (fnO "find" "Scope.find" (inCls 10 1) (.none) "methodrows.plain_scopes" 225 93) := by kernel_rfl
theorem c94 (P : Params) : codeIn (KK P) (.ref 93) (S "Scope.find") = true := by kernel_rfl
theorem kp94 (P : Params) : keepIn (KK P) (.ref 94) = true := by kernel_rfl
theorem f101 (P : Params) : (KK P).lookup 101 = some (fnO "is_known" "Scope.is_known" (inCls 10 2) (.none) "methodrows.plain_scopes" 225 100) := by kernel_rfl
theorem c101 (P : Params) : codeIn (KK P) (.ref 100) (S "Scope.is_known") = true := by kernel_rfl
theorem kp101 (P : Params) : keepIn (KK P) (.ref 101) = true := by kernel_rfl
theorem f108 (P : Params) : (KK P).lookup 108 = some (fnO "bind" "Scope.bind" (inCls 10 3) (.none) "methodrows.plain_scopes" 225 107) := by kernel_rfl
theorem c108 (P : Params) : codeIn (KK P) (.ref 107) (S "Scope.bind") = true := by kernel_rfl
theorem kp108 (P : Params) : keepIn (KK P) (.ref 108) = true := by kernel_rfl
theorem f122 (P : Params) : (KK P).lookup 122 = some (fnO "open_for" "Scope.open_for" (inCls 10 5) (.none) "methodrows.plain_scopes" 225 121) := by kernel_rfl
theorem c122 (P : Params) : codeIn (KK P) (.ref 121) (S "Scope.open_for") = true := by kernel_rfl
theorem kp122 (P : Params) : keepIn (KK P) (.ref 122) = true := by kernel_rfl
theorem f143 (P : Params) : (KK P).lookup 143 = some (fnO "__init__" "Names.__init__" (inCls 11 0) (.none) "methodrows.plain_scopes" 225 142) := by kernel_rfl
theorem c143 (P : Params) : codeIn (KK P) (.ref 142) (S "Names.__init__") = true := by kernel_rfl
theorem kp143 (P : Params) : keepIn (KK P) (.ref 143) = true := by kernel_rfl
theorem f150 (P : Params) : (KK P).lookup 150 = some (fnO "look" "Names.look" (inCls 11 1) (.none) "methodrows.plain_scopes" 225 149) := by kernel_rfl
theorem c150 (P : Params) : codeIn (KK P) (.ref 149) (S "Names.look") = true := by kernel_rfl
theorem kp150 (P : Params) : keepIn (KK P) (.ref 150) = true := by kernel_rfl
theorem f157 (P : Params) : (KK P).lookup 157 = some (fnO "told" "Names.told" (inCls 11 2) (.none) "methodrows.plain_scopes" 225 156) := by kernel_rfl
theorem c157 (P : Params) : codeIn (KK P) (.ref 156) (S "Names.told") = true := by kernel_rfl
theorem kp157 (P : Params) : keepIn (KK P) (.ref 157) = true := by kernel_rfl
theorem f164 (P : Params) : (KK P).lookup 164 = some (fnO "put" "Names.put" (inCls 11 3) (.none) "methodrows.plain_scopes" 225 163) := by kernel_rfl
theorem c164 (P : Params) : codeIn (KK P) (.ref 163) (S "Names.put") = true := by kernel_rfl
theorem kp164 (P : Params) : keepIn (KK P) (.ref 164) = true := by kernel_rfl
theorem f178 (P : Params) : (KK P).lookup 178 = some (fnO "own_parts" "own_parts" (stAt 12) (.none) "methodrows.plain_scopes" 225 177) := by kernel_rfl
theorem c178 (P : Params) : codeIn (KK P) (.ref 177) (S "own_parts") = true := by kernel_rfl
theorem kp178 (P : Params) : keepIn (KK P) (.ref 178) = true := by kernel_rfl
theorem f185 (P : Params) : (KK P).lookup 185 = some (fnO "targets_of" "targets_of" (stAt 13) (.none) "methodrows.plain_scopes" 225 184) := by kernel_rfl
theorem c185 (P : Params) : codeIn (KK P) (.ref 184) (S "targets_of") = true := by kernel_rfl
theorem kp185 (P : Params) : keepIn (KK P) (.ref 185) = true := by kernel_rfl
theorem f192 (P : Params) : (KK P).lookup 192 = some (fnO "defined_by" "defined_by" (stAt 14) (.none) "methodrows.plain_scopes" 225 191) := by kernel_rfl
theorem c192 (P : Params) : codeIn (KK P) (.ref 191) (S "defined_by") = true := by kernel_rfl
theorem kp192 (P : Params) : keepIn (KK P) (.ref 192) = true := by kernel_rfl
theorem f202 (P : Params) : (KK P).lookup 202 = some (fnO "put_once" "put_once" (stAt 19) (.none) "methodrows.scopes" 437 201) := by kernel_rfl
theorem c202 (P : Params) : codeIn (KK P) (.ref 201) (S "put_once") = true := by kernel_rfl
theorem kp202 (P : Params) : keepIn (KK P) (.ref 202) = true := by kernel_rfl
theorem f209 (P : Params) : (KK P).lookup 209 = some (fnO "place_names" "place_names" (stAt 20) (.none) "methodrows.scopes" 437 208) := by kernel_rfl
theorem c209 (P : Params) : codeIn (KK P) (.ref 208) (S "place_names") = true := by kernel_rfl
theorem kp209 (P : Params) : keepIn (KK P) (.ref 209) = true := by kernel_rfl
theorem f216 (P : Params) : (KK P).lookup 216 = some (fnO "function_head" "function_head" (stAt 21) (.none) "methodrows.scopes" 437 215) := by kernel_rfl
theorem c216 (P : Params) : codeIn (KK P) (.ref 215) (S "function_head") = true := by kernel_rfl
theorem kp216 (P : Params) : keepIn (KK P) (.ref 216) = true := by kernel_rfl
theorem f223 (P : Params) : (KK P).lookup 223 = some (fnO "own_name" "own_name" (stAt 22) (.none) "methodrows.scopes" 437 222) := by kernel_rfl
theorem c223 (P : Params) : codeIn (KK P) (.ref 222) (S "own_name") = true := by kernel_rfl
theorem kp223 (P : Params) : keepIn (KK P) (.ref 223) = true := by kernel_rfl
theorem f230 (P : Params) : (KK P).lookup 230 = some (fnO "parts_in_scope" "parts_in_scope" (stAt 23) (.none) "methodrows.scopes" 437 229) := by kernel_rfl
theorem c230 (P : Params) : codeIn (KK P) (.ref 229) (S "parts_in_scope") = true := by kernel_rfl
theorem kp230 (P : Params) : keepIn (KK P) (.ref 230) = true := by kernel_rfl
theorem f244 (P : Params) : (KK P).lookup 244 = some (fnO "__init__" "Bound.__init__" (inCls 24 0) (.none) "methodrows.scopes" 437 243) := by kernel_rfl
theorem c244 (P : Params) : codeIn (KK P) (.ref 243) (S "Bound.__init__") = true := by kernel_rfl
theorem kp244 (P : Params) : keepIn (KK P) (.ref 244) = true := by kernel_rfl
theorem f251 (P : Params) : (KK P).lookup 251 = some (fnO "note" "Bound.note" (inCls 24 1) (.none) "methodrows.scopes" 437 250) := by kernel_rfl
theorem c251 (P : Params) : codeIn (KK P) (.ref 250) (S "Bound.note") = true := by kernel_rfl
theorem kp251 (P : Params) : keepIn (KK P) (.ref 251) = true := by kernel_rfl
theorem f265 (P : Params) : (KK P).lookup 265 = some (fnO "bound_names" "bound_names" (stAt 25) (.none) "methodrows.scopes" 437 264) := by kernel_rfl
theorem c265 (P : Params) : codeIn (KK P) (.ref 264) (S "bound_names") = true := by kernel_rfl
theorem kp265 (P : Params) : keepIn (KK P) (.ref 265) = true := by kernel_rfl
theorem f272 (P : Params) : (KK P).lookup 272 = some (fnO "_law_spring" "_law_spring" (stAt 27) (.none) "law_pq0696_01" 555 271) := by kernel_rfl
theorem c272 (P : Params) : codeIn (KK P) (.ref 271) (S "_law_spring") = true := by kernel_rfl
theorem kp272 (P : Params) : keepIn (KK P) (.ref 272) = true := by kernel_rfl
theorem f279 (P : Params) : (KK P).lookup 279 = some (fnO "_law_drop" "_law_drop" (stAt 28) (.none) "law_pq0696_01" 555 278) := by kernel_rfl
theorem c279 (P : Params) : codeIn (KK P) (.ref 278) (S "_law_drop") = true := by kernel_rfl
theorem kp279 (P : Params) : keepIn (KK P) (.ref 279) = true := by kernel_rfl
theorem f286 (P : Params) : (KK P).lookup 286 = some (fnO "_law_tree" "_law_tree" (stAt 29) (.none) "law_pq0696_01" 555 285) := by kernel_rfl
theorem c286 (P : Params) : codeIn (KK P) (.ref 285) (S "_law_tree") = true := by kernel_rfl
theorem kp286 (P : Params) : keepIn (KK P) (.ref 286) = true := by kernel_rfl
theorem f293 (P : Params) : (KK P).lookup 293 = some (fnO "_law_name" "_law_name" (stAt 30) (.none) "law_pq0696_01" 555 292) := by kernel_rfl
theorem c293 (P : Params) : codeIn (KK P) (.ref 292) (S "_law_name") = true := by kernel_rfl
theorem kp293 (P : Params) : keepIn (KK P) (.ref 293) = true := by kernel_rfl
theorem f300 (P : Params) : (KK P).lookup 300 = some (fnO "_law_place" "_law_place" (stAt 31) (.none) "law_pq0696_01" 555 299) := by kernel_rfl
theorem c300 (P : Params) : codeIn (KK P) (.ref 299) (S "_law_place") = true := by kernel_rfl
theorem kp300 (P : Params) : keepIn (KK P) (.ref 300) = true := by kernel_rfl
theorem f305 (P : Params) : (KK P).lookup 305 = some (fnO "_law_some" "_law_some" (stAt 32) (.none) "law_pq0696_01" 555 304) := by kernel_rfl
theorem c305 (P : Params) : codeIn (KK P) (.ref 304) (S "_law_some") = true := by kernel_rfl
theorem kp305 (P : Params) : keepIn (KK P) (.ref 305) = true := by kernel_rfl
theorem f312 (P : Params) : (KK P).lookup 312 = some (fnO "_law_drawn" "_law_drawn" (stAt 33) (.none) "law_pq0696_01" 555 311) := by kernel_rfl
theorem c312 (P : Params) : codeIn (KK P) (.ref 311) (S "_law_drawn") = true := by kernel_rfl
theorem kp312 (P : Params) : keepIn (KK P) (.ref 312) = true := by kernel_rfl
theorem f317 (P : Params) : (KK P).lookup 317 = some (fnO "_law_targets" "_law_targets" (stAt 34) (.none) "law_pq0696_01" 555 316) := by kernel_rfl
theorem c317 (P : Params) : codeIn (KK P) (.ref 316) (S "_law_targets") = true := by kernel_rfl
theorem kp317 (P : Params) : keepIn (KK P) (.ref 317) = true := by kernel_rfl
theorem f324 (P : Params) : (KK P).lookup 324 = some (fnO "_law_walk" "_law_walk" (stAt 35) (.none) "law_pq0696_01" 555 323) := by kernel_rfl
theorem c324 (P : Params) : codeIn (KK P) (.ref 323) (S "_law_walk") = true := by kernel_rfl
theorem kp324 (P : Params) : keepIn (KK P) (.ref 324) = true := by kernel_rfl
theorem f331 (P : Params) : (KK P).lookup 331 = some (fnO "_law_note" "_law_note" (stAt 36) (.none) "law_pq0696_01" 555 330) := by kernel_rfl
theorem c331 (P : Params) : codeIn (KK P) (.ref 330) (S "_law_note") = true := by kernel_rfl
theorem kp331 (P : Params) : keepIn (KK P) (.ref 331) = true := by kernel_rfl
theorem f336 (P : Params) : (KK P).lookup 336 = some (fnO "_law_opened_right" "_law_opened_right" (stAt 37) (.none) "law_pq0696_01" 555 335) := by kernel_rfl
theorem c336 (P : Params) : codeIn (KK P) (.ref 335) (S "_law_opened_right") = true := by kernel_rfl
theorem kp336 (P : Params) : keepIn (KK P) (.ref 336) = true := by kernel_rfl
theorem f341 (P : Params) : (KK P).lookup 341 = some (fnO "law" "law" (stAt 38) (.none) "law_pq0696_01" 555 340) := by kernel_rfl
theorem c341 (P : Params) : codeIn (KK P) (.ref 340) (S "law") = true := by kernel_rfl
theorem kp341 (P : Params) : keepIn (KK P) (.ref 341) = true := by kernel_rfl
theorem g_is_expr (P : Params) : nsIn (KK P) mainGlobals (S "is_expr") = some (some (.ref 28)) := by kernel_rfl
theorem g_head_of (P : Params) : nsIn (KK P) mainGlobals (S "head_of") = some (some (.ref 35)) := by kernel_rfl
theorem g_parts_of (P : Params) : nsIn (KK P) mainGlobals (S "parts_of") = some (some (.ref 42)) := by kernel_rfl
theorem g_is_sym (P : Params) : nsIn (KK P) mainGlobals (S "is_sym") = some (some (.ref 49)) := by kernel_rfl
theorem g_ASSIGNS (P : Params) : nsIn (KK P) mainGlobals (S "ASSIGNS") = some (some (.ref 50)) := by kernel_rfl
theorem g_INNER (P : Params) : nsIn (KK P) mainGlobals (S "INNER") = some (some (.ref 51)) := by kernel_rfl
theorem g_Cell (P : Params) : nsIn (KK P) mainGlobals (S "Cell") = some (some (.ref 69)) := by kernel_rfl
theorem g_Scope (P : Params) : nsIn (KK P) mainGlobals (S "Scope") = some (some (.ref 125)) := by kernel_rfl
theorem g_Names (P : Params) : nsIn (KK P) mainGlobals (S "Names") = some (some (.ref 167)) := by kernel_rfl
theorem g_own_parts (P : Params) : nsIn (KK P) mainGlobals (S "own_parts") = some (some (.ref 178)) := by kernel_rfl
theorem g_targets_of (P : Params) : nsIn (KK P) mainGlobals (S "targets_of") = some (some (.ref 185)) := by kernel_rfl
theorem g_defined_by (P : Params) : nsIn (KK P) mainGlobals (S "defined_by") = some (some (.ref 192)) := by kernel_rfl
theorem g_UPDATES (P : Params) : nsIn (KK P) mainGlobals (S "UPDATES") = some (some (.ref 193)) := by kernel_rfl
theorem g_FUNCTIONS (P : Params) : nsIn (KK P) mainGlobals (S "FUNCTIONS") = some (some (.ref 194)) := by kernel_rfl
theorem g_SILENT (P : Params) : nsIn (KK P) mainGlobals (S "SILENT") = some (some (.ref 195)) := by kernel_rfl
theorem g_put_once (P : Params) : nsIn (KK P) mainGlobals (S "put_once") = some (some (.ref 202)) := by kernel_rfl
theorem g_place_names (P : Params) : nsIn (KK P) mainGlobals (S "place_names") = some (some (.ref 209)) := by kernel_rfl
theorem g_function_head (P : Params) : nsIn (KK P) mainGlobals (S "function_head") = some (some (.ref 216)) := by kernel_rfl
theorem g_own_name (P : Params) : nsIn (KK P) mainGlobals (S "own_name") = some (some (.ref 223)) := by kernel_rfl
theorem g_parts_in_scope (P : Params) : nsIn (KK P) mainGlobals (S "parts_in_scope") = some (some (.ref 230)) := by kernel_rfl
theorem g_Bound (P : Params) : nsIn (KK P) mainGlobals (S "Bound") = some (some (.ref 254)) := by kernel_rfl
theorem g_bound_names (P : Params) : nsIn (KK P) mainGlobals (S "bound_names") = some (some (.ref 265)) := by kernel_rfl
theorem g_law_spring (P : Params) : nsIn (KK P) mainGlobals (S "_law_spring") = some (some (.ref 272)) := by kernel_rfl
theorem g_law_drop (P : Params) : nsIn (KK P) mainGlobals (S "_law_drop") = some (some (.ref 279)) := by kernel_rfl
theorem g_law_tree (P : Params) : nsIn (KK P) mainGlobals (S "_law_tree") = some (some (.ref 286)) := by kernel_rfl
theorem g_law_name (P : Params) : nsIn (KK P) mainGlobals (S "_law_name") = some (some (.ref 293)) := by kernel_rfl
theorem g_law_place (P : Params) : nsIn (KK P) mainGlobals (S "_law_place") = some (some (.ref 300)) := by kernel_rfl
theorem g_law_some (P : Params) : nsIn (KK P) mainGlobals (S "_law_some") = some (some (.ref 305)) := by kernel_rfl
theorem g_law_drawn (P : Params) : nsIn (KK P) mainGlobals (S "_law_drawn") = some (some (.ref 312)) := by kernel_rfl
theorem g_law_targets (P : Params) : nsIn (KK P) mainGlobals (S "_law_targets") = some (some (.ref 317)) := by kernel_rfl
theorem g_law_walk (P : Params) : nsIn (KK P) mainGlobals (S "_law_walk") = some (some (.ref 324)) := by kernel_rfl
theorem g_law_note (P : Params) : nsIn (KK P) mainGlobals (S "_law_note") = some (some (.ref 331)) := by kernel_rfl
theorem g_law_opened_right (P : Params) : nsIn (KK P) mainGlobals (S "_law_opened_right") = some (some (.ref 336)) := by kernel_rfl
theorem g_law (P : Params) : nsIn (KK P) mainGlobals (S "law") = some (some (.ref 341)) := by kernel_rfl
theorem b_list (P : Params) : nsIn (KK P) mainGlobals (S "list") = some none := by kernel_rfl
theorem b_tuple (P : Params) : nsIn (KK P) mainGlobals (S "tuple") = some none := by kernel_rfl
theorem b_range (P : Params) : nsIn (KK P) mainGlobals (S "range") = some none := by kernel_rfl
theorem b_len (P : Params) : nsIn (KK P) mainGlobals (S "len") = some none := by kernel_rfl
theorem b_abs (P : Params) : nsIn (KK P) mainGlobals (S "abs") = some none := by kernel_rfl
theorem b_max (P : Params) : nsIn (KK P) mainGlobals (S "max") = some none := by kernel_rfl
theorem b_min (P : Params) : nsIn (KK P) mainGlobals (S "min") = some none := by kernel_rfl
theorem b_sorted (P : Params) : nsIn (KK P) mainGlobals (S "sorted") = some none := by kernel_rfl

/-- trees -/
inductive T where
  | sym (x : Str)
  | int
  | node (h : Str) (ps : List T)
mutual
inductive TreeAt (h : Heap) : Value → T → Prop where
  | sym {a : Addr} {x : Str} {t1 t2 : Nat} : IsTup h a [.str (S "sym") t1, .str x t2].toArray → TreeAt h (.ref a) (.sym x)
  | int {a : Addr} {t1 t2 : Nat} : IsTup h a [.str (S "int") t1, .int 1 t2].toArray → TreeAt h (.ref a) .int
  | node {a p : Addr} {x : Str} {t1 t2 : Nat} {vs : List Value} {ts : List T} : IsTup h a [.str (S "expr") t1, .str x t2, .ref p].toArray → IsTup h p vs.toArray → TreesAt h vs ts → TreeAt h (.ref a) (.node x ts)
inductive TreesAt (h : Heap) : List Value → List T → Prop where
  | nil : TreesAt h [] []
  | cons {v : Value} {t : T} {vs : List Value} {ts : List T} : TreeAt h v t → TreesAt h vs ts → TreesAt h (v :: vs) (t :: ts)
end
/-- tuples stay -/
noncomputable def TupObj (o : Obj) : Prop := o.cls = .type "tuple" ∧ ∃ its n, o.data = .seq its n
noncomputable def TupKeep (h h' : Heap) : Prop := ∀ b o, h.get? b = some o → TupObj o → h'.get? b = some o
theorem TupKeep.tup {h h' : Heap} {a : Addr} {its : Array Value} (k : TupKeep h h') (x : IsTup h a its) : IsTup h' a its := let ⟨o, e, c, n, d⟩ := x; ⟨o, k a o e ⟨c, _, n, d⟩, c, n, d⟩
theorem TreeAt.mono {h h' : Heap} (k : TupKeep h h') {v : Value} {t : T} (x : TreeAt h v t) : TreeAt h' v t :=
  TreeAt.rec (motive_1 := fun v t _ => TreeAt h' v t) (motive_2 := fun vs ts _ => TreesAt h' vs ts) (fun x => .sym (k.tup x)) (fun x => .int (k.tup x)) (fun x y _ z => .node (k.tup x) (k.tup y) z) .nil (fun _ _ a b => .cons a b) x
theorem TreesAt.mono {h h' : Heap} (k : TupKeep h h') {vs : List Value} {ts : List T} (x : TreesAt h vs ts) : TreesAt h' vs ts :=
  TreesAt.rec (motive_1 := fun v t _ => TreeAt h' v t) (motive_2 := fun vs ts _ => TreesAt h' vs ts) (fun x => .sym (k.tup x)) (fun x => .int (k.tup x)) (fun x y _ z => .node (k.tup x) (k.tup y) z) .nil (fun _ _ a b => .cons a b) x
theorem TreesAt.length {h : Heap} {vs : List Value} {ts : List T} (x : TreesAt h vs ts) : vs.length = ts.length := by
  induction vs generalizing ts with
  | nil => cases x; rfl
  | cons v r ih => cases x with | cons _ y => rw [List.length_cons, List.length_cons, ih y]
theorem TreesAt.append {h : Heap} {vs us : List Value} {ts ss : List T} (x : TreesAt h vs ts) (y : TreesAt h us ss) : TreesAt h (vs ++ us) (ts ++ ss) := by
  induction vs generalizing ts with
  | nil => cases x; exact y
  | cons v r ih => cases x with | cons a b => exact .cons a (ih b)
theorem TreesAt.reverse {h : Heap} {vs : List Value} {ts : List T} (x : TreesAt h vs ts) : TreesAt h vs.reverse ts.reverse := by
  induction vs generalizing ts with
  | nil => cases x; exact .nil
  | cons v r ih => cases x with | cons a b => rw [List.reverse_cons, List.reverse_cons]; exact (ih b).append (.cons a .nil)
theorem TreesAt.drop {h : Heap} {vs : List Value} {ts : List T} (x : TreesAt h vs ts) : ∀ n, TreesAt h (vs.drop n) (ts.drop n) := by
  intro n
  induction n generalizing vs ts with
  | zero => exact x
  | succ n ih => cases x with
    | nil => exact .nil
    | cons a b => exact ih b
theorem TreesAt.take {h : Heap} {vs : List Value} {ts : List T} (x : TreesAt h vs ts) : ∀ n, TreesAt h (vs.take n) (ts.take n) := by
  intro n
  induction n generalizing vs ts with
  | zero => exact .nil
  | succ n ih => cases x with
    | nil => exact .nil
    | cons a b => exact .cons a (ih b)
theorem TupKeep.of_stays {h h' : Heap} (k : h.StaysIn h') : TupKeep h h' := fun b o e _ => k b o e
theorem TupKeep.trans {h h' h'' : Heap} (k : TupKeep h h') (k' : TupKeep h' h'') : TupKeep h h'' := fun b o e c => k' b o (k b o e c) c
/-- what is no tuple is at W -/
noncomputable def NoTup (h : Heap) (W : List Addr) : Prop := ∀ a ∈ W, ∀ o, h.get? a = some o → ¬ TupObj o
theorem TupKeep.of_but {h h' : Heap} {W : List Addr} (n : NoTup h W) (k : ∀ b o, b ∉ W → h.get? b = some o → h'.get? b = some o) : TupKeep h h' := fun b o e c => k b o (fun q => n b q o e c) e
theorem noTup_ns {h : Heap} {C : Addr} {m : Str → Option Value} (x : h.Ns C m) : NoTup h [C] := fun a ha o e q => by
  obtain ⟨o', es, ep, e', d, _⟩ := x
  rw [List.mem_singleton.mp ha, e'] at e
  cases e
  obtain ⟨_, its, n, d'⟩ := q
  rw [d] at d'; cases d'
/-- a list's own words -/
noncomputable def isL (vs : List Value) : OP := fun o => o.cls = .type "list" ∧ ∃ n, o.data = .seq vs.toArray n
noncomputable def isPL (vs : List Value) : OP := fun o => ∃ n, o = { cls := .type "list", data := .seq vs.toArray n }
theorem Has.isList {h : Heap} {a : Addr} {vs : List Value} (x : Has h (a, isL vs)) : h.IsList a vs.toArray := let ⟨o, e, c, n, d⟩ := x; ⟨o, e, c, n, d⟩
theorem Has.isPList {h : Heap} {a : Addr} {vs : List Value} (x : Has h (a, isPL vs)) : h.IsList a vs.toArray := by
  obtain ⟨o, e, n, q⟩ := x
  cases q
  exact ⟨_, e, rfl, n, rfl⟩
section
variable {w : World} {A : Around} {E : Value → Shared → Prop} {s : Shared}
theorem str_beq (x y : Str) : (x.cps.toList == y.cps.toList) = (x == y) := by
  by_cases h : x = y
  · subst h; simp
  · have : x.cps.toList ≠ y.cps.toList := fun e => h (by cases x; cases y; simp only [Str.mk.injEq]; exact Array.toList_inj.mp e)
    rw [beq_eq_false_iff_ne.mpr this, beq_eq_false_iff_ne.mpr h]
theorem r_eq_str {x y : Str} {t u : Nat} {Q : Value → Shared → Prop} (h : Q (.bool (x == y)) s) : wpAny (model PW w) A (compareOp .Eq (.str x t) (.str y u)) Q E s :=
  PySem.P.eq_str (by rw [str_beq]; exact h)
theorem r_ne_str {x y : Str} {t u : Nat} {Q : Value → Shared → Prop} (h : Q (.bool (!(x == y))) s) : wpAny (model PW w) A (compareOp .NotEq (.str x t) (.str y u)) Q E s :=
  PySem.P.ne_str (by show Q (.bool (!(x.cps.toList == y.cps.toList))) s; rw [str_beq]; exact h)
theorem r_item {value slice : Expr} {t : Addr} {l : List Value} {k : Nat} {u : Nat} {x : Value} {Q : Value → Shared → Prop} (ht : IsTup s.heap t l.toArray)
    (hx : l[k]? = some x) (hk : k < 1000) (h : Q x s)
    (hs : subscripted slice false (.ref t) (.int k u) = operate [.ref t, .int k u] (getItem (.ref t) (.int k u))) : wpAny (model PW w) A (subscriptTail value slice (.ref t) (.int (k : Nat) u)) Q E s := by
  refine item_tupleT ht (by omega) (by omega) (j := k) ?_ hx h hs
  have hl : k < l.length := (List.getElem?_eq_some_iff.mp hx).1
  unfold seqIndex?
  dsimp only
  have h1 : ¬ ((k : Int) < 0) := by omega
  simp only [h1, if_false]
  rw [if_pos (by simp only [Bool.and_eq_true, decide_eq_true_eq]; omega), Int.toNat_natCast]
end

noncomputable def ndp : List Str → Bool
  | [] => true
  | x :: r => !(r.any (· == x)) && ndp r
/-- the arguments of a call as a list of names: read from either end, and names without a value behind -/
theorem mp_rev (l : List (Str × Value)) (ns : List Str) (nd : ndp (l.map (·.1)) = true) :
    mp (l.reverse.map fun x => (x.1, some x.2)) = mp (l.map (fun x => (x.1, some x.2)) ++ ns.map fun n => (n, none)) := by
  have A : ∀ (y : Str) (l : List (Str × Value)), ndp (l.map (·.1)) = true → (l.reverse.map fun x => (x.1, some x.2)).lookup y = (l.map fun x => (x.1, some x.2)).lookup y := by
    intro y l
    induction l with
    | nil => intro _; rfl
    | cons a r ih =>
      intro n
      obtain ⟨n1, n2⟩ := Bool.and_eq_true_iff.mp n
      rw [List.reverse_cons, List.map_append, List.lookup_append, ih n2]
      show Option.or _ (List.lookup y [(a.1, some a.2)]) = List.lookup y ((a.1, some a.2) :: _)
      rw [List.lookup_cons, List.lookup_cons]
      cases e : y == a.1 with
      | false => dsimp only; rw [List.lookup_nil, Option.or_none]
      | true =>
        dsimp only
        have : (r.map fun x => (x.1, some x.2)).lookup y = none := by
          rw [List.lookup_eq_none_iff]
          intro p hp
          obtain ⟨q, hq, rfl⟩ := List.mem_map.mp hp
          cases e2 : y == q.1 with
          | false => exact congrArg (!·) e2
          | true =>
            have := eq_of_beq e; have := eq_of_beq e2
            subst y
            rw [List.any_eq_true.mpr ⟨q.1, List.mem_map.mpr ⟨q, hq, rfl⟩, by show (q.1 == a.1) = true; rw [‹a.1 = q.1›]; exact beq_self_eq_true _⟩] at n1
            cases n1
        rw [this]; rfl
  have C : ∀ (y : Str) (ns : List Str), ((ns.map fun n => (n, (none : Option Value))).lookup y).join = none := by
    intro y ns
    induction ns with
    | nil => rfl
    | cons a r ih => rw [List.map_cons, List.lookup_cons]; cases y == a <;> first | rfl | exact ih
  funext y
  unfold mp
  rw [A y l nd, List.lookup_append]
  cases e : List.lookup y (l.map fun x => (x.1, some x.2)) with
  | some v => rfl
  | none => rw [Option.none_or, C]; rfl
theorem St.congr {w : World} {g : Heap} {L : Addr} {l l' : LM} {led : Led} {h : Heap} (SS : St w g L l led h) (e : mp l = mp l') : St w g L l' led h := ⟨SS.B, e ▸ SS.F, SS.N⟩
/-- a name stored in its place -/
noncomputable def setL (x : Str) (v : Option Value) : LM → LM
  | [] => [(x, v)]
  | (y, u) :: r => match y == x with | true => (y, v) :: r | false => (y, u) :: setL x v r
theorem mp_set {x : Str} {v : Option Value} : ∀ {l : LM}, mp (setL x v l) = mp ((x, v) :: l)
  | [] => rfl
  | (y, u) :: r => by
    have ih := mp_set (x := x) (v := v) (l := r)
    unfold setL
    funext z
    have iz : mp (setL x v r) z = mp ((x, v) :: r) z := by rw [ih]
    unfold mp at iz ⊢
    rw [List.lookup_cons] at iz
    cases e : y == x with
    | true =>
      have := eq_of_beq e
      subst this
      simp only [List.lookup_cons]
      cases z == y <;> rfl
    | false =>
      simp only [List.lookup_cons]
      cases ez : z == y with
      | true =>
        have := eq_of_beq ez
        subst this
        rw [e]
      | false => exact iz
section
variable {w : World} {A : Around} {E : Value → Shared → Prop} {s : Shared} {g h : Heap} {L a : Addr} {l l' : LM} {led : Led} {cn : Str} {cs : PySem.Scope} {ccd : Value} {cl : List (Str × Addr)}
theorem r_set {M : Model} {x : Str} {v : Value} {tk : Nat} {Q : Unit → Shared → Prop} (SS : St w g L l led h) (e : setL x (some v) l = l')
    (q : ∀ h' tk', St w g L l' led h' → (∀ b o, b ≠ L → h.get? b = some o → h'.get? b = some o) → Q () (up s h' tk'))
    (hk : cs.kind = .function) (hx : (envX cn cs L a ccd cl).kindOf x = some .local) : wpAny M A (storeName (envX cn cs L a ccd cl) x v) Q E (up s h tk) :=
  r_store SS (fun h' tk' S' k => q h' tk' (S'.congr (e ▸ mp_set.symm)) k) hk hx
end
/-- the names of a def with their values -/
noncomputable def V28 (o0 o1 : Option Value) : LM := [(S "tree", o0), (S "head", o1)]
noncomputable def V35 (o0 : Option Value) : LM := [(S "tree", o0)]
noncomputable def V66 (o0 o1 : Option Value) : LM := [(S "self", o0), (S "value", o1)]
noncomputable def V87 (o0 o1 : Option Value) : LM := [(S "self", o0), (S "parent", o1)]
noncomputable def V94 (o0 o1 o2 : Option Value) : LM := [(S "self", o0), (S "name", o1), (S "here", o2)]
noncomputable def V108 (o0 o1 o2 : Option Value) : LM := [(S "self", o0), (S "name", o1), (S "value", o2)]
noncomputable def V122 (o0 o1 o2 o3 o4 : Option Value) : LM := [(S "self", o0), (S "trees", o1), (S "told", o2), (S "tree", o3), (S "name", o4)]
noncomputable def V143 (o0 : Option Value) : LM := [(S "self", o0)]
noncomputable def V150 (o0 o1 o2 o3 : Option Value) : LM := [(S "self", o0), (S "tree", o1), (S "left", o2), (S "here", o3)]
noncomputable def V157 (o0 o1 o2 o3 : Option Value) : LM := [(S "self", o0), (S "tree", o1), (S "place", o2), (S "names", o3)]
noncomputable def V164 (o0 o1 o2 o3 : Option Value) : LM := [(S "self", o0), (S "some", o1), (S "names", o2), (S "name", o3)]
noncomputable def V178 (o0 o1 o2 : Option Value) : LM := [(S "tree", o0), (S "head", o1), (S "parts", o2)]
noncomputable def V185 (o0 o1 o2 : Option Value) : LM := [(S "place", o0), (S "found", o1), (S "part", o2)]
noncomputable def V202 (o0 o1 o2 : Option Value) : LM := [(S "some", o0), (S "names", o1), (S "name", o2)]
noncomputable def V209 (o0 o1 o2 o3 o4 : Option Value) : LM := [(S "place", o0), (S "head", o1), (S "parts", o2), (S "found", o3), (S "part", o4)]
noncomputable def V251 (o0 o1 o2 o3 o4 : Option Value) : LM := [(S "self", o0), (S "tree", o1), (S "head", o2), (S "part", o3), (S "place", o4)]
noncomputable def V265 (o0 o1 o2 o3 : Option Value) : LM := [(S "tree", o0), (S "found", o1), (S "left", o2), (S "here", o3)]
noncomputable def V272 (o0 o1 o2 : Option Value) : LM := [(S "script", o0), (S "k", o1), (S "number", o2)]
noncomputable def V279 (o0 o1 o2 : Option Value) : LM := [(S "spring", o0), (S "many", o1), (S "got", o2)]
noncomputable def V286 (o0 o1 : Option Value) : LM := [(S "head", o0), (S "parts", o1)]
noncomputable def V293 (o0 : Option Value) : LM := [(S "spring", o0)]
noncomputable def V300 (o0 o1 : Option Value) : LM := [(S "spring", o0), (S "way", o1)]
noncomputable def V312 (o0 o1 o2 o3 o4 o5 o6 o7 : Option Value) : LM := [(S "spring", o0), (S "deep", o1), (S "way", o2), (S "inner", o3), (S "bound", o4), (S "one", o5), (S "body", o6), (S "worth", o7)]
noncomputable def V317 (o0 : Option Value) : LM := [(S "place", o0)]
noncomputable def V324 (o0 o1 o2 o3 o4 o5 : Option Value) : LM := [(S "tree", o0), (S "found", o1), (S "head", o2), (S "parts", o3), (S "inner", o4), (S "part", o5)]
noncomputable def V341 (o0 o1 o2 o3 o4 o5 o6 : Option Value) : LM := [(S "script", o0), (S "loop", o1), (S "k", o2), (S "spring", o3), (S "tree", o4), (S "lists", o5), (S "told", o6)]
noncomputable def VG226 (o0 : Option Value) : LM := [(S "most", o0)]
noncomputable def VO427 (o0 o1 : Option Value) : LM := [(S "lists", o0), (S "tree", o1)]
noncomputable def VO728 (o0 o1 o2 o3 o4 o5 : Option Value) : LM := [(S "here", o0), (S "outer", o1), (S "outermost", o2), (S "given", o3), (S "lists", o4), (S "tree", o5)]
section
variable {w : World} {A : Around} {E : Value → Shared → Prop} {s : Shared} {h₀ g : Heap} {L : Addr} {led : Led} {M : Model} {l : LM} {v : Value} {pos xp : Pos} {e : Expr} {rest : List Expr} {h : Heap} {tk n : Nat} {Q : Value → Shared → Prop} {U : Unit → Shared → Prop} {o0 o1 o2 o3 o4 o5 o6 o7 o8 o9 : Option Value}
theorem ml28 (v0 v1 : Value) : mp ([(S "tree", v0), (S "head", v1)].reverse.map fun x => (x.1, some x.2)) = mp (V28 (some v0) (some v1)) := mp_rev [(S "tree", v0), (S "head", v1)] [] (by kernel_rfl)
theorem en28 {v0 v1 : Value} (R : Room (n + 1) A) (B : Bs w h₀) (k₀ : h₀.StaysIn s.heap) (W : Led) (hW : ∀ p ∈ W, Has s.heap p ∧ h₀.get? p.1 = none)
    (h : ∀ g L h₁ tk, St w g L (V28 (some v0) (some v1)) W h₁ → h₀.StaysIn g → (∀ b o, b ∉ W.map (·.1) → s.heap.get? b = some o → g.get? b = some o) → (∀ b o, g.get? b = some o → s.heap.get? b = some o) →
      s.heap.StaysIn h₁ → Room n (A.deeper (envX (S "is_expr") (fnS (stAt 2)) L 28 (.ref 27) [])) → wpAny (model PW w) (A.deeper (envX (S "is_expr") (fnS (stAt 2)) L 28 (.ref 27) [])) (execs (fnB (stAt 2)) (envX (S "is_expr") (fnS (stAt 2)) L 28 (.ref 27) []))
        (retK Q) NoE (up s h₁ tk)) :
    wpAny (model PW w) A (call (.ref 28) [v0, v1]) Q E s :=
  r_enter (binds := [(S "tree", v0), (S "head", v1)]) (f28 _) (c28 _) R B k₀ W hW (BindsTo.of_eq (by rfl)) (locs (by rfl)) (by rfl) (by rfl) (by rfl) (by decide) fun g L h₁ tk SS => h g L h₁ tk (SS.congr (ml28 v0 v1))
theorem lo28_tree (SS : St w g L (V28 (some v) o1) led h) (q : Q v (up s h tk)) : wpAny M A (eval (.Name (Str.ofString "tree") pos) (envX (S "is_expr") (fnS (stAt 2)) L 28 (.ref 27) [])) Q E (up s h tk) :=
  r_loc (s := up s h tk) SS (by rfl) q (by kernel_rfl) (by kernel_rfl) (by kernel_rfl)
theorem so28_tree (SS : St w g L (V28 o0 o1) led h)
    (q : ∀ h' tk', St w g L (V28 (some v) o1) led h' → (∀ b o, b ≠ L → h.get? b = some o → h'.get? b = some o) → U () (up s h' tk')) : wpAny M A (storeName (envX (S "is_expr") (fnS (stAt 2)) L 28 (.ref 27) []) (Str.ofString "tree") v) U E (up s h tk) :=
  r_set SS (by rfl) q (by kernel_rfl) (by kernel_rfl)
theorem lo28_head (SS : St w g L (V28 o0 (some v)) led h) (q : Q v (up s h tk)) : wpAny M A (eval (.Name (Str.ofString "head") pos) (envX (S "is_expr") (fnS (stAt 2)) L 28 (.ref 27) [])) Q E (up s h tk) :=
  r_loc (s := up s h tk) SS (by rfl) q (by kernel_rfl) (by kernel_rfl) (by kernel_rfl)
theorem so28_head (SS : St w g L (V28 o0 o1) led h)
    (q : ∀ h' tk', St w g L (V28 o0 (some v)) led h' → (∀ b o, b ≠ L → h.get? b = some o → h'.get? b = some o) → U () (up s h' tk')) : wpAny M A (storeName (envX (S "is_expr") (fnS (stAt 2)) L 28 (.ref 27) []) (Str.ofString "head") v) U E (up s h tk) :=
  r_set SS (by rfl) q (by kernel_rfl) (by kernel_rfl)
theorem ml35 (v0 : Value) : mp ([(S "tree", v0)].reverse.map fun x => (x.1, some x.2)) = mp (V35 (some v0)) := mp_rev [(S "tree", v0)] [] (by kernel_rfl)
theorem en35 {v0 : Value} (R : Room (n + 1) A) (B : Bs w h₀) (k₀ : h₀.StaysIn s.heap) (W : Led) (hW : ∀ p ∈ W, Has s.heap p ∧ h₀.get? p.1 = none)
    (h : ∀ g L h₁ tk, St w g L (V35 (some v0)) W h₁ → h₀.StaysIn g → (∀ b o, b ∉ W.map (·.1) → s.heap.get? b = some o → g.get? b = some o) → (∀ b o, g.get? b = some o → s.heap.get? b = some o) →
      s.heap.StaysIn h₁ → Room n (A.deeper (envX (S "head_of") (fnS (stAt 3)) L 35 (.ref 34) [])) → wpAny (model PW w) (A.deeper (envX (S "head_of") (fnS (stAt 3)) L 35 (.ref 34) [])) (execs (fnB (stAt 3)) (envX (S "head_of") (fnS (stAt 3)) L 35 (.ref 34) []))
        (retK Q) NoE (up s h₁ tk)) :
    wpAny (model PW w) A (call (.ref 35) [v0]) Q E s :=
  r_enter (binds := [(S "tree", v0)]) (f35 _) (c35 _) R B k₀ W hW (BindsTo.of_eq (by rfl)) (locs (by rfl)) (by rfl) (by rfl) (by rfl) (by decide) fun g L h₁ tk SS => h g L h₁ tk (SS.congr (ml35 v0))
theorem lo35_tree (SS : St w g L (V35 (some v)) led h) (q : Q v (up s h tk)) : wpAny M A (eval (.Name (Str.ofString "tree") pos) (envX (S "head_of") (fnS (stAt 3)) L 35 (.ref 34) [])) Q E (up s h tk) :=
  r_loc (s := up s h tk) SS (by rfl) q (by kernel_rfl) (by kernel_rfl) (by kernel_rfl)
theorem so35_tree (SS : St w g L (V35 o0) led h)
    (q : ∀ h' tk', St w g L (V35 (some v)) led h' → (∀ b o, b ≠ L → h.get? b = some o → h'.get? b = some o) → U () (up s h' tk')) : wpAny M A (storeName (envX (S "head_of") (fnS (stAt 3)) L 35 (.ref 34) []) (Str.ofString "tree") v) U E (up s h tk) :=
  r_set SS (by rfl) q (by kernel_rfl) (by kernel_rfl)
theorem ml42 (v0 : Value) : mp ([(S "tree", v0)].reverse.map fun x => (x.1, some x.2)) = mp (V35 (some v0)) := mp_rev [(S "tree", v0)] [] (by kernel_rfl)
theorem en42 {v0 : Value} (R : Room (n + 1) A) (B : Bs w h₀) (k₀ : h₀.StaysIn s.heap) (W : Led) (hW : ∀ p ∈ W, Has s.heap p ∧ h₀.get? p.1 = none)
    (h : ∀ g L h₁ tk, St w g L (V35 (some v0)) W h₁ → h₀.StaysIn g → (∀ b o, b ∉ W.map (·.1) → s.heap.get? b = some o → g.get? b = some o) → (∀ b o, g.get? b = some o → s.heap.get? b = some o) →
      s.heap.StaysIn h₁ → Room n (A.deeper (envX (S "parts_of") (fnS (stAt 4)) L 42 (.ref 41) [])) → wpAny (model PW w) (A.deeper (envX (S "parts_of") (fnS (stAt 4)) L 42 (.ref 41) [])) (execs (fnB (stAt 4)) (envX (S "parts_of") (fnS (stAt 4)) L 42 (.ref 41) []))
        (retK Q) NoE (up s h₁ tk)) :
    wpAny (model PW w) A (call (.ref 42) [v0]) Q E s :=
  r_enter (binds := [(S "tree", v0)]) (f42 _) (c42 _) R B k₀ W hW (BindsTo.of_eq (by rfl)) (locs (by rfl)) (by rfl) (by rfl) (by rfl) (by decide) fun g L h₁ tk SS => h g L h₁ tk (SS.congr (ml42 v0))
theorem lo42_tree (SS : St w g L (V35 (some v)) led h) (q : Q v (up s h tk)) : wpAny M A (eval (.Name (Str.ofString "tree") pos) (envX (S "parts_of") (fnS (stAt 4)) L 42 (.ref 41) [])) Q E (up s h tk) :=
  r_loc (s := up s h tk) SS (by rfl) q (by kernel_rfl) (by kernel_rfl) (by kernel_rfl)
theorem so42_tree (SS : St w g L (V35 o0) led h)
    (q : ∀ h' tk', St w g L (V35 (some v)) led h' → (∀ b o, b ≠ L → h.get? b = some o → h'.get? b = some o) → U () (up s h' tk')) : wpAny M A (storeName (envX (S "parts_of") (fnS (stAt 4)) L 42 (.ref 41) []) (Str.ofString "tree") v) U E (up s h tk) :=
  r_set SS (by rfl) q (by kernel_rfl) (by kernel_rfl)
theorem ml49 (v0 : Value) : mp ([(S "tree", v0)].reverse.map fun x => (x.1, some x.2)) = mp (V35 (some v0)) := mp_rev [(S "tree", v0)] [] (by kernel_rfl)
theorem en49 {v0 : Value} (R : Room (n + 1) A) (B : Bs w h₀) (k₀ : h₀.StaysIn s.heap) (W : Led) (hW : ∀ p ∈ W, Has s.heap p ∧ h₀.get? p.1 = none)
    (h : ∀ g L h₁ tk, St w g L (V35 (some v0)) W h₁ → h₀.StaysIn g → (∀ b o, b ∉ W.map (·.1) → s.heap.get? b = some o → g.get? b = some o) → (∀ b o, g.get? b = some o → s.heap.get? b = some o) →
      s.heap.StaysIn h₁ → Room n (A.deeper (envX (S "is_sym") (fnS (stAt 5)) L 49 (.ref 48) [])) → wpAny (model PW w) (A.deeper (envX (S "is_sym") (fnS (stAt 5)) L 49 (.ref 48) [])) (execs (fnB (stAt 5)) (envX (S "is_sym") (fnS (stAt 5)) L 49 (.ref 48) []))
        (retK Q) NoE (up s h₁ tk)) :
    wpAny (model PW w) A (call (.ref 49) [v0]) Q E s :=
  r_enter (binds := [(S "tree", v0)]) (f49 _) (c49 _) R B k₀ W hW (BindsTo.of_eq (by rfl)) (locs (by rfl)) (by rfl) (by rfl) (by rfl) (by decide) fun g L h₁ tk SS => h g L h₁ tk (SS.congr (ml49 v0))
theorem lo49_tree (SS : St w g L (V35 (some v)) led h) (q : Q v (up s h tk)) : wpAny M A (eval (.Name (Str.ofString "tree") pos) (envX (S "is_sym") (fnS (stAt 5)) L 49 (.ref 48) [])) Q E (up s h tk) :=
  r_loc (s := up s h tk) SS (by rfl) q (by kernel_rfl) (by kernel_rfl) (by kernel_rfl)
theorem so49_tree (SS : St w g L (V35 o0) led h)
    (q : ∀ h' tk', St w g L (V35 (some v)) led h' → (∀ b o, b ≠ L → h.get? b = some o → h'.get? b = some o) → U () (up s h' tk')) : wpAny M A (storeName (envX (S "is_sym") (fnS (stAt 5)) L 49 (.ref 48) []) (Str.ofString "tree") v) U E (up s h tk) :=
  r_set SS (by rfl) q (by kernel_rfl) (by kernel_rfl)
theorem ml66 (v0 v1 : Value) : mp ([(S "self", v0), (S "value", v1)].reverse.map fun x => (x.1, some x.2)) = mp (V66 (some v0) (some v1)) := mp_rev [(S "self", v0), (S "value", v1)] [] (by kernel_rfl)
theorem en66 {v0 v1 : Value} (R : Room (n + 1) A) (B : Bs w h₀) (k₀ : h₀.StaysIn s.heap) (W : Led) (hW : ∀ p ∈ W, Has s.heap p ∧ h₀.get? p.1 = none)
    (h : ∀ g L h₁ tk, St w g L (V66 (some v0) (some v1)) W h₁ → h₀.StaysIn g → (∀ b o, b ∉ W.map (·.1) → s.heap.get? b = some o → g.get? b = some o) → (∀ b o, g.get? b = some o → s.heap.get? b = some o) →
      s.heap.StaysIn h₁ → Room n (A.deeper (envX (S "Cell.__init__") (fnS (inCls 9 0)) L 66 (.ref 65) [])) → wpAny (model PW w) (A.deeper (envX (S "Cell.__init__") (fnS (inCls 9 0)) L 66 (.ref 65) [])) (execs (fnB (inCls 9 0)) (envX (S "Cell.__init__") (fnS (inCls 9 0)) L 66 (.ref 65) []))
        (retK Q) NoE (up s h₁ tk)) :
    wpAny (model PW w) A (call (.ref 66) [v0, v1]) Q E s :=
  r_enter (binds := [(S "self", v0), (S "value", v1)]) (f66 _) (c66 _) R B k₀ W hW (binds_K (B.keeps k₀).kin rfl (show (KK w.params).lookup 59 = some (tupO [.none] 0) by kernel_rfl) rfl (by rfl) (by rfl)) (locs (by rfl)) (by rfl) (by rfl) (by rfl) (by decide) fun g L h₁ tk SS => h g L h₁ tk (SS.congr (ml66 v0 v1))
theorem lo66_self (SS : St w g L (V66 (some v) o1) led h) (q : Q v (up s h tk)) : wpAny M A (eval (.Name (Str.ofString "self") pos) (envX (S "Cell.__init__") (fnS (inCls 9 0)) L 66 (.ref 65) [])) Q E (up s h tk) :=
  r_loc (s := up s h tk) SS (by rfl) q (by kernel_rfl) (by kernel_rfl) (by kernel_rfl)
theorem so66_self (SS : St w g L (V66 o0 o1) led h)
    (q : ∀ h' tk', St w g L (V66 (some v) o1) led h' → (∀ b o, b ≠ L → h.get? b = some o → h'.get? b = some o) → U () (up s h' tk')) : wpAny M A (storeName (envX (S "Cell.__init__") (fnS (inCls 9 0)) L 66 (.ref 65) []) (Str.ofString "self") v) U E (up s h tk) :=
  r_set SS (by rfl) q (by kernel_rfl) (by kernel_rfl)
theorem lo66_value (SS : St w g L (V66 o0 (some v)) led h) (q : Q v (up s h tk)) : wpAny M A (eval (.Name (Str.ofString "value") pos) (envX (S "Cell.__init__") (fnS (inCls 9 0)) L 66 (.ref 65) [])) Q E (up s h tk) :=
  r_loc (s := up s h tk) SS (by rfl) q (by kernel_rfl) (by kernel_rfl) (by kernel_rfl)
theorem so66_value (SS : St w g L (V66 o0 o1) led h)
    (q : ∀ h' tk', St w g L (V66 o0 (some v)) led h' → (∀ b o, b ≠ L → h.get? b = some o → h'.get? b = some o) → U () (up s h' tk')) : wpAny M A (storeName (envX (S "Cell.__init__") (fnS (inCls 9 0)) L 66 (.ref 65) []) (Str.ofString "value") v) U E (up s h tk) :=
  r_set SS (by rfl) q (by kernel_rfl) (by kernel_rfl)
theorem ml87 (v0 v1 : Value) : mp ([(S "self", v0), (S "parent", v1)].reverse.map fun x => (x.1, some x.2)) = mp (V87 (some v0) (some v1)) := mp_rev [(S "self", v0), (S "parent", v1)] [] (by kernel_rfl)
theorem en87 {v0 v1 : Value} (R : Room (n + 1) A) (B : Bs w h₀) (k₀ : h₀.StaysIn s.heap) (W : Led) (hW : ∀ p ∈ W, Has s.heap p ∧ h₀.get? p.1 = none)
    (h : ∀ g L h₁ tk, St w g L (V87 (some v0) (some v1)) W h₁ → h₀.StaysIn g → (∀ b o, b ∉ W.map (·.1) → s.heap.get? b = some o → g.get? b = some o) → (∀ b o, g.get? b = some o → s.heap.get? b = some o) →
      s.heap.StaysIn h₁ → Room n (A.deeper (envX (S "Scope.__init__") (fnS (inCls 10 0)) L 87 (.ref 86) [])) → wpAny (model PW w) (A.deeper (envX (S "Scope.__init__") (fnS (inCls 10 0)) L 87 (.ref 86) [])) (execs (fnB (inCls 10 0)) (envX (S "Scope.__init__") (fnS (inCls 10 0)) L 87 (.ref 86) []))
        (retK Q) NoE (up s h₁ tk)) :
    wpAny (model PW w) A (call (.ref 87) [v0, v1]) Q E s :=
  r_enter (binds := [(S "self", v0), (S "parent", v1)]) (f87 _) (c87 _) R B k₀ W hW (BindsTo.of_eq (by rfl)) (locs (by rfl)) (by rfl) (by rfl) (by rfl) (by decide) fun g L h₁ tk SS => h g L h₁ tk (SS.congr (ml87 v0 v1))
theorem lo87_self (SS : St w g L (V87 (some v) o1) led h) (q : Q v (up s h tk)) : wpAny M A (eval (.Name (Str.ofString "self") pos) (envX (S "Scope.__init__") (fnS (inCls 10 0)) L 87 (.ref 86) [])) Q E (up s h tk) :=
  r_loc (s := up s h tk) SS (by rfl) q (by kernel_rfl) (by kernel_rfl) (by kernel_rfl)
theorem so87_self (SS : St w g L (V87 o0 o1) led h)
    (q : ∀ h' tk', St w g L (V87 (some v) o1) led h' → (∀ b o, b ≠ L → h.get? b = some o → h'.get? b = some o) → U () (up s h' tk')) : wpAny M A (storeName (envX (S "Scope.__init__") (fnS (inCls 10 0)) L 87 (.ref 86) []) (Str.ofString "self") v) U E (up s h tk) :=
  r_set SS (by rfl) q (by kernel_rfl) (by kernel_rfl)
theorem lo87_parent (SS : St w g L (V87 o0 (some v)) led h) (q : Q v (up s h tk)) : wpAny M A (eval (.Name (Str.ofString "parent") pos) (envX (S "Scope.__init__") (fnS (inCls 10 0)) L 87 (.ref 86) [])) Q E (up s h tk) :=
  r_loc (s := up s h tk) SS (by rfl) q (by kernel_rfl) (by kernel_rfl) (by kernel_rfl)
theorem so87_parent (SS : St w g L (V87 o0 o1) led h)
    (q : ∀ h' tk', St w g L (V87 o0 (some v)) led h' → (∀ b o, b ≠ L → h.get? b = some o → h'.get? b = some o) → U () (up s h' tk')) : wpAny M A (storeName (envX (S "Scope.__init__") (fnS (inCls 10 0)) L 87 (.ref 86) []) (Str.ofString "parent") v) U E (up s h tk) :=
  r_set SS (by rfl) q (by kernel_rfl) (by kernel_rfl)
theorem ml94 (v0 v1 : Value) : mp ([(S "self", v0), (S "name", v1)].reverse.map fun x => (x.1, some x.2)) = mp (V94 (some v0) (some v1) none) := mp_rev [(S "self", v0), (S "name", v1)] [S "here"] (by kernel_rfl)
theorem en94 {v0 v1 : Value} (R : Room (n + 1) A) (B : Bs w h₀) (k₀ : h₀.StaysIn s.heap) (W : Led) (hW : ∀ p ∈ W, Has s.heap p ∧ h₀.get? p.1 = none)
    (h : ∀ g L h₁ tk, St w g L (V94 (some v0) (some v1) none) W h₁ → h₀.StaysIn g → (∀ b o, b ∉ W.map (·.1) → s.heap.get? b = some o → g.get? b = some o) → (∀ b o, g.get? b = some o → s.heap.get? b = some o) →
      s.heap.StaysIn h₁ → Room n (A.deeper (envX (S "Scope.find") (fnS (inCls 10 1)) L 94 (.ref 93) [])) → wpAny (model PW w) (A.deeper (envX (S "Scope.find") (fnS (inCls 10 1)) L 94 (.ref 93) [])) (execs (fnB (inCls 10 1)) (envX (S "Scope.find") (fnS (inCls 10 1)) L 94 (.ref 93) []))
        (retK Q) NoE (up s h₁ tk)) :
    wpAny (model PW w) A (call (.ref 94) [v0, v1]) Q E s :=
  r_enter (binds := [(S "self", v0), (S "name", v1)]) (f94 _) (c94 _) R B k₀ W hW (BindsTo.of_eq (by rfl)) (locs (by rfl)) (by rfl) (by rfl) (by rfl) (by decide) fun g L h₁ tk SS => h g L h₁ tk (SS.congr (ml94 v0 v1))
theorem lo94_self (SS : St w g L (V94 (some v) o1 o2) led h) (q : Q v (up s h tk)) : wpAny M A (eval (.Name (Str.ofString "self") pos) (envX (S "Scope.find") (fnS (inCls 10 1)) L 94 (.ref 93) [])) Q E (up s h tk) :=
  r_loc (s := up s h tk) SS (by rfl) q (by kernel_rfl) (by kernel_rfl) (by kernel_rfl)
theorem so94_self (SS : St w g L (V94 o0 o1 o2) led h)
    (q : ∀ h' tk', St w g L (V94 (some v) o1 o2) led h' → (∀ b o, b ≠ L → h.get? b = some o → h'.get? b = some o) → U () (up s h' tk')) : wpAny M A (storeName (envX (S "Scope.find") (fnS (inCls 10 1)) L 94 (.ref 93) []) (Str.ofString "self") v) U E (up s h tk) :=
  r_set SS (by rfl) q (by kernel_rfl) (by kernel_rfl)
theorem lo94_name (SS : St w g L (V94 o0 (some v) o2) led h) (q : Q v (up s h tk)) : wpAny M A (eval (.Name (Str.ofString "name") pos) (envX (S "Scope.find") (fnS (inCls 10 1)) L 94 (.ref 93) [])) Q E (up s h tk) :=
  r_loc (s := up s h tk) SS (by rfl) q (by kernel_rfl) (by kernel_rfl) (by kernel_rfl)
theorem so94_name (SS : St w g L (V94 o0 o1 o2) led h)
    (q : ∀ h' tk', St w g L (V94 o0 (some v) o2) led h' → (∀ b o, b ≠ L → h.get? b = some o → h'.get? b = some o) → U () (up s h' tk')) : wpAny M A (storeName (envX (S "Scope.find") (fnS (inCls 10 1)) L 94 (.ref 93) []) (Str.ofString "name") v) U E (up s h tk) :=
  r_set SS (by rfl) q (by kernel_rfl) (by kernel_rfl)
theorem lo94_here (SS : St w g L (V94 o0 o1 (some v)) led h) (q : Q v (up s h tk)) : wpAny M A (eval (.Name (Str.ofString "here") pos) (envX (S "Scope.find") (fnS (inCls 10 1)) L 94 (.ref 93) [])) Q E (up s h tk) :=
  r_loc (s := up s h tk) SS (by rfl) q (by kernel_rfl) (by kernel_rfl) (by kernel_rfl)
theorem so94_here (SS : St w g L (V94 o0 o1 o2) led h)
    (q : ∀ h' tk', St w g L (V94 o0 o1 (some v)) led h' → (∀ b o, b ≠ L → h.get? b = some o → h'.get? b = some o) → U () (up s h' tk')) : wpAny M A (storeName (envX (S "Scope.find") (fnS (inCls 10 1)) L 94 (.ref 93) []) (Str.ofString "here") v) U E (up s h tk) :=
  r_set SS (by rfl) q (by kernel_rfl) (by kernel_rfl)
theorem ml101 (v0 v1 : Value) : mp ([(S "self", v0), (S "name", v1)].reverse.map fun x => (x.1, some x.2)) = mp (V94 (some v0) (some v1) none) := mp_rev [(S "self", v0), (S "name", v1)] [S "here"] (by kernel_rfl)
theorem en101 {v0 v1 : Value} (R : Room (n + 1) A) (B : Bs w h₀) (k₀ : h₀.StaysIn s.heap) (W : Led) (hW : ∀ p ∈ W, Has s.heap p ∧ h₀.get? p.1 = none)
    (h : ∀ g L h₁ tk, St w g L (V94 (some v0) (some v1) none) W h₁ → h₀.StaysIn g → (∀ b o, b ∉ W.map (·.1) → s.heap.get? b = some o → g.get? b = some o) → (∀ b o, g.get? b = some o → s.heap.get? b = some o) →
      s.heap.StaysIn h₁ → Room n (A.deeper (envX (S "Scope.is_known") (fnS (inCls 10 2)) L 101 (.ref 100) [])) → wpAny (model PW w) (A.deeper (envX (S "Scope.is_known") (fnS (inCls 10 2)) L 101 (.ref 100) [])) (execs (fnB (inCls 10 2)) (envX (S "Scope.is_known") (fnS (inCls 10 2)) L 101 (.ref 100) []))
        (retK Q) NoE (up s h₁ tk)) :
    wpAny (model PW w) A (call (.ref 101) [v0, v1]) Q E s :=
  r_enter (binds := [(S "self", v0), (S "name", v1)]) (f101 _) (c101 _) R B k₀ W hW (BindsTo.of_eq (by rfl)) (locs (by rfl)) (by rfl) (by rfl) (by rfl) (by decide) fun g L h₁ tk SS => h g L h₁ tk (SS.congr (ml101 v0 v1))
theorem lo101_self (SS : St w g L (V94 (some v) o1 o2) led h) (q : Q v (up s h tk)) : wpAny M A (eval (.Name (Str.ofString "self") pos) (envX (S "Scope.is_known") (fnS (inCls 10 2)) L 101 (.ref 100) [])) Q E (up s h tk) :=
  r_loc (s := up s h tk) SS (by rfl) q (by kernel_rfl) (by kernel_rfl) (by kernel_rfl)
theorem so101_self (SS : St w g L (V94 o0 o1 o2) led h)
    (q : ∀ h' tk', St w g L (V94 (some v) o1 o2) led h' → (∀ b o, b ≠ L → h.get? b = some o → h'.get? b = some o) → U () (up s h' tk')) : wpAny M A (storeName (envX (S "Scope.is_known") (fnS (inCls 10 2)) L 101 (.ref 100) []) (Str.ofString "self") v) U E (up s h tk) :=
  r_set SS (by rfl) q (by kernel_rfl) (by kernel_rfl)
theorem lo101_name (SS : St w g L (V94 o0 (some v) o2) led h) (q : Q v (up s h tk)) : wpAny M A (eval (.Name (Str.ofString "name") pos) (envX (S "Scope.is_known") (fnS (inCls 10 2)) L 101 (.ref 100) [])) Q E (up s h tk) :=
  r_loc (s := up s h tk) SS (by rfl) q (by kernel_rfl) (by kernel_rfl) (by kernel_rfl)
theorem so101_name (SS : St w g L (V94 o0 o1 o2) led h)
    (q : ∀ h' tk', St w g L (V94 o0 (some v) o2) led h' → (∀ b o, b ≠ L → h.get? b = some o → h'.get? b = some o) → U () (up s h' tk')) : wpAny M A (storeName (envX (S "Scope.is_known") (fnS (inCls 10 2)) L 101 (.ref 100) []) (Str.ofString "name") v) U E (up s h tk) :=
  r_set SS (by rfl) q (by kernel_rfl) (by kernel_rfl)
theorem lo101_here (SS : St w g L (V94 o0 o1 (some v)) led h) (q : Q v (up s h tk)) : wpAny M A (eval (.Name (Str.ofString "here") pos) (envX (S "Scope.is_known") (fnS (inCls 10 2)) L 101 (.ref 100) [])) Q E (up s h tk) :=
  r_loc (s := up s h tk) SS (by rfl) q (by kernel_rfl) (by kernel_rfl) (by kernel_rfl)
theorem so101_here (SS : St w g L (V94 o0 o1 o2) led h)
    (q : ∀ h' tk', St w g L (V94 o0 o1 (some v)) led h' → (∀ b o, b ≠ L → h.get? b = some o → h'.get? b = some o) → U () (up s h' tk')) : wpAny M A (storeName (envX (S "Scope.is_known") (fnS (inCls 10 2)) L 101 (.ref 100) []) (Str.ofString "here") v) U E (up s h tk) :=
  r_set SS (by rfl) q (by kernel_rfl) (by kernel_rfl)
theorem ml108 (v0 v1 v2 : Value) : mp ([(S "self", v0), (S "name", v1), (S "value", v2)].reverse.map fun x => (x.1, some x.2)) = mp (V108 (some v0) (some v1) (some v2)) := mp_rev [(S "self", v0), (S "name", v1), (S "value", v2)] [] (by kernel_rfl)
theorem en108 {v0 v1 v2 : Value} (R : Room (n + 1) A) (B : Bs w h₀) (k₀ : h₀.StaysIn s.heap) (W : Led) (hW : ∀ p ∈ W, Has s.heap p ∧ h₀.get? p.1 = none)
    (h : ∀ g L h₁ tk, St w g L (V108 (some v0) (some v1) (some v2)) W h₁ → h₀.StaysIn g → (∀ b o, b ∉ W.map (·.1) → s.heap.get? b = some o → g.get? b = some o) → (∀ b o, g.get? b = some o → s.heap.get? b = some o) →
      s.heap.StaysIn h₁ → Room n (A.deeper (envX (S "Scope.bind") (fnS (inCls 10 3)) L 108 (.ref 107) [])) → wpAny (model PW w) (A.deeper (envX (S "Scope.bind") (fnS (inCls 10 3)) L 108 (.ref 107) [])) (execs (fnB (inCls 10 3)) (envX (S "Scope.bind") (fnS (inCls 10 3)) L 108 (.ref 107) []))
        (retK Q) NoE (up s h₁ tk)) :
    wpAny (model PW w) A (call (.ref 108) [v0, v1, v2]) Q E s :=
  r_enter (binds := [(S "self", v0), (S "name", v1), (S "value", v2)]) (f108 _) (c108 _) R B k₀ W hW (BindsTo.of_eq (by rfl)) (locs (by rfl)) (by rfl) (by rfl) (by rfl) (by decide) fun g L h₁ tk SS => h g L h₁ tk (SS.congr (ml108 v0 v1 v2))
theorem lo108_self (SS : St w g L (V108 (some v) o1 o2) led h) (q : Q v (up s h tk)) : wpAny M A (eval (.Name (Str.ofString "self") pos) (envX (S "Scope.bind") (fnS (inCls 10 3)) L 108 (.ref 107) [])) Q E (up s h tk) :=
  r_loc (s := up s h tk) SS (by rfl) q (by kernel_rfl) (by kernel_rfl) (by kernel_rfl)
theorem so108_self (SS : St w g L (V108 o0 o1 o2) led h)
    (q : ∀ h' tk', St w g L (V108 (some v) o1 o2) led h' → (∀ b o, b ≠ L → h.get? b = some o → h'.get? b = some o) → U () (up s h' tk')) : wpAny M A (storeName (envX (S "Scope.bind") (fnS (inCls 10 3)) L 108 (.ref 107) []) (Str.ofString "self") v) U E (up s h tk) :=
  r_set SS (by rfl) q (by kernel_rfl) (by kernel_rfl)
theorem lo108_name (SS : St w g L (V108 o0 (some v) o2) led h) (q : Q v (up s h tk)) : wpAny M A (eval (.Name (Str.ofString "name") pos) (envX (S "Scope.bind") (fnS (inCls 10 3)) L 108 (.ref 107) [])) Q E (up s h tk) :=
  r_loc (s := up s h tk) SS (by rfl) q (by kernel_rfl) (by kernel_rfl) (by kernel_rfl)
theorem so108_name (SS : St w g L (V108 o0 o1 o2) led h)
    (q : ∀ h' tk', St w g L (V108 o0 (some v) o2) led h' → (∀ b o, b ≠ L → h.get? b = some o → h'.get? b = some o) → U () (up s h' tk')) : wpAny M A (storeName (envX (S "Scope.bind") (fnS (inCls 10 3)) L 108 (.ref 107) []) (Str.ofString "name") v) U E (up s h tk) :=
  r_set SS (by rfl) q (by kernel_rfl) (by kernel_rfl)
theorem lo108_value (SS : St w g L (V108 o0 o1 (some v)) led h) (q : Q v (up s h tk)) : wpAny M A (eval (.Name (Str.ofString "value") pos) (envX (S "Scope.bind") (fnS (inCls 10 3)) L 108 (.ref 107) [])) Q E (up s h tk) :=
  r_loc (s := up s h tk) SS (by rfl) q (by kernel_rfl) (by kernel_rfl) (by kernel_rfl)
theorem so108_value (SS : St w g L (V108 o0 o1 o2) led h)
    (q : ∀ h' tk', St w g L (V108 o0 o1 (some v)) led h' → (∀ b o, b ≠ L → h.get? b = some o → h'.get? b = some o) → U () (up s h' tk')) : wpAny M A (storeName (envX (S "Scope.bind") (fnS (inCls 10 3)) L 108 (.ref 107) []) (Str.ofString "value") v) U E (up s h tk) :=
  r_set SS (by rfl) q (by kernel_rfl) (by kernel_rfl)
theorem lo108_Cell (SS : St w g L l led h) (q : Q (.ref 69) (up s h tk)) : wpAny M A (eval (.Name (Str.ofString "Cell") pos) (envX (S "Scope.bind") (fnS (inCls 10 3)) L 108 (.ref 107) [])) Q E (up s h tk) :=
  r_glob (s := up s h tk) SS (g_Cell _) q (by kernel_rfl) (by kernel_rfl) (by kernel_rfl)
theorem ml122 (v0 v1 : Value) : mp ([(S "self", v0), (S "trees", v1)].reverse.map fun x => (x.1, some x.2)) = mp (V122 (some v0) (some v1) none none none) := mp_rev [(S "self", v0), (S "trees", v1)] [S "told", S "tree", S "name"] (by kernel_rfl)
theorem en122 {v0 v1 : Value} (R : Room (n + 1) A) (B : Bs w h₀) (k₀ : h₀.StaysIn s.heap) (W : Led) (hW : ∀ p ∈ W, Has s.heap p ∧ h₀.get? p.1 = none)
    (h : ∀ g L h₁ tk, St w g L (V122 (some v0) (some v1) none none none) W h₁ → h₀.StaysIn g → (∀ b o, b ∉ W.map (·.1) → s.heap.get? b = some o → g.get? b = some o) → (∀ b o, g.get? b = some o → s.heap.get? b = some o) →
      s.heap.StaysIn h₁ → Room n (A.deeper (envX (S "Scope.open_for") (fnS (inCls 10 5)) L 122 (.ref 121) [])) → wpAny (model PW w) (A.deeper (envX (S "Scope.open_for") (fnS (inCls 10 5)) L 122 (.ref 121) [])) (execs (fnB (inCls 10 5)) (envX (S "Scope.open_for") (fnS (inCls 10 5)) L 122 (.ref 121) []))
        (retK Q) NoE (up s h₁ tk)) :
    wpAny (model PW w) A (call (.ref 122) [v0, v1]) Q E s :=
  r_enter (binds := [(S "self", v0), (S "trees", v1)]) (f122 _) (c122 _) R B k₀ W hW (BindsTo.of_eq (by rfl)) (locs (by rfl)) (by rfl) (by rfl) (by rfl) (by decide) fun g L h₁ tk SS => h g L h₁ tk (SS.congr (ml122 v0 v1))
theorem lo122_self (SS : St w g L (V122 (some v) o1 o2 o3 o4) led h) (q : Q v (up s h tk)) : wpAny M A (eval (.Name (Str.ofString "self") pos) (envX (S "Scope.open_for") (fnS (inCls 10 5)) L 122 (.ref 121) [])) Q E (up s h tk) :=
  r_loc (s := up s h tk) SS (by rfl) q (by kernel_rfl) (by kernel_rfl) (by kernel_rfl)
theorem so122_self (SS : St w g L (V122 o0 o1 o2 o3 o4) led h)
    (q : ∀ h' tk', St w g L (V122 (some v) o1 o2 o3 o4) led h' → (∀ b o, b ≠ L → h.get? b = some o → h'.get? b = some o) → U () (up s h' tk')) : wpAny M A (storeName (envX (S "Scope.open_for") (fnS (inCls 10 5)) L 122 (.ref 121) []) (Str.ofString "self") v) U E (up s h tk) :=
  r_set SS (by rfl) q (by kernel_rfl) (by kernel_rfl)
theorem lo122_trees (SS : St w g L (V122 o0 (some v) o2 o3 o4) led h) (q : Q v (up s h tk)) : wpAny M A (eval (.Name (Str.ofString "trees") pos) (envX (S "Scope.open_for") (fnS (inCls 10 5)) L 122 (.ref 121) [])) Q E (up s h tk) :=
  r_loc (s := up s h tk) SS (by rfl) q (by kernel_rfl) (by kernel_rfl) (by kernel_rfl)
theorem so122_trees (SS : St w g L (V122 o0 o1 o2 o3 o4) led h)
    (q : ∀ h' tk', St w g L (V122 o0 (some v) o2 o3 o4) led h' → (∀ b o, b ≠ L → h.get? b = some o → h'.get? b = some o) → U () (up s h' tk')) : wpAny M A (storeName (envX (S "Scope.open_for") (fnS (inCls 10 5)) L 122 (.ref 121) []) (Str.ofString "trees") v) U E (up s h tk) :=
  r_set SS (by rfl) q (by kernel_rfl) (by kernel_rfl)
theorem lo122_told (SS : St w g L (V122 o0 o1 (some v) o3 o4) led h) (q : Q v (up s h tk)) : wpAny M A (eval (.Name (Str.ofString "told") pos) (envX (S "Scope.open_for") (fnS (inCls 10 5)) L 122 (.ref 121) [])) Q E (up s h tk) :=
  r_loc (s := up s h tk) SS (by rfl) q (by kernel_rfl) (by kernel_rfl) (by kernel_rfl)
theorem so122_told (SS : St w g L (V122 o0 o1 o2 o3 o4) led h)
    (q : ∀ h' tk', St w g L (V122 o0 o1 (some v) o3 o4) led h' → (∀ b o, b ≠ L → h.get? b = some o → h'.get? b = some o) → U () (up s h' tk')) : wpAny M A (storeName (envX (S "Scope.open_for") (fnS (inCls 10 5)) L 122 (.ref 121) []) (Str.ofString "told") v) U E (up s h tk) :=
  r_set SS (by rfl) q (by kernel_rfl) (by kernel_rfl)
theorem lo122_tree (SS : St w g L (V122 o0 o1 o2 (some v) o4) led h) (q : Q v (up s h tk)) : wpAny M A (eval (.Name (Str.ofString "tree") pos) (envX (S "Scope.open_for") (fnS (inCls 10 5)) L 122 (.ref 121) [])) Q E (up s h tk) :=
  r_loc (s := up s h tk) SS (by rfl) q (by kernel_rfl) (by kernel_rfl) (by kernel_rfl)
theorem so122_tree (SS : St w g L (V122 o0 o1 o2 o3 o4) led h)
    (q : ∀ h' tk', St w g L (V122 o0 o1 o2 (some v) o4) led h' → (∀ b o, b ≠ L → h.get? b = some o → h'.get? b = some o) → U () (up s h' tk')) : wpAny M A (storeName (envX (S "Scope.open_for") (fnS (inCls 10 5)) L 122 (.ref 121) []) (Str.ofString "tree") v) U E (up s h tk) :=
  r_set SS (by rfl) q (by kernel_rfl) (by kernel_rfl)
theorem lo122_name (SS : St w g L (V122 o0 o1 o2 o3 (some v)) led h) (q : Q v (up s h tk)) : wpAny M A (eval (.Name (Str.ofString "name") pos) (envX (S "Scope.open_for") (fnS (inCls 10 5)) L 122 (.ref 121) [])) Q E (up s h tk) :=
  r_loc (s := up s h tk) SS (by rfl) q (by kernel_rfl) (by kernel_rfl) (by kernel_rfl)
theorem so122_name (SS : St w g L (V122 o0 o1 o2 o3 o4) led h)
    (q : ∀ h' tk', St w g L (V122 o0 o1 o2 o3 (some v)) led h' → (∀ b o, b ≠ L → h.get? b = some o → h'.get? b = some o) → U () (up s h' tk')) : wpAny M A (storeName (envX (S "Scope.open_for") (fnS (inCls 10 5)) L 122 (.ref 121) []) (Str.ofString "name") v) U E (up s h tk) :=
  r_set SS (by rfl) q (by kernel_rfl) (by kernel_rfl)
theorem lo122_Names (SS : St w g L l led h) (q : Q (.ref 167) (up s h tk)) : wpAny M A (eval (.Name (Str.ofString "Names") pos) (envX (S "Scope.open_for") (fnS (inCls 10 5)) L 122 (.ref 121) [])) Q E (up s h tk) :=
  r_glob (s := up s h tk) SS (g_Names _) q (by kernel_rfl) (by kernel_rfl) (by kernel_rfl)
theorem lo122_list (SS : St w g L l led h) (q : Q (.type "list") (up s h tk)) : wpAny M A (eval (.Name (Str.ofString "list") pos) (envX (S "Scope.open_for") (fnS (inCls 10 5)) L 122 (.ref 121) [])) Q E (up s h tk) :=
  r_blt (s := up s h tk) SS (b_list _) (by kernel_rfl) (by decide) q (by kernel_rfl) (by kernel_rfl) (by kernel_rfl)
theorem ml143 (v0 : Value) : mp ([(S "self", v0)].reverse.map fun x => (x.1, some x.2)) = mp (V143 (some v0)) := mp_rev [(S "self", v0)] [] (by kernel_rfl)
theorem en143 {v0 : Value} (R : Room (n + 1) A) (B : Bs w h₀) (k₀ : h₀.StaysIn s.heap) (W : Led) (hW : ∀ p ∈ W, Has s.heap p ∧ h₀.get? p.1 = none)
    (h : ∀ g L h₁ tk, St w g L (V143 (some v0)) W h₁ → h₀.StaysIn g → (∀ b o, b ∉ W.map (·.1) → s.heap.get? b = some o → g.get? b = some o) → (∀ b o, g.get? b = some o → s.heap.get? b = some o) →
      s.heap.StaysIn h₁ → Room n (A.deeper (envX (S "Names.__init__") (fnS (inCls 11 0)) L 143 (.ref 142) [])) → wpAny (model PW w) (A.deeper (envX (S "Names.__init__") (fnS (inCls 11 0)) L 143 (.ref 142) [])) (execs (fnB (inCls 11 0)) (envX (S "Names.__init__") (fnS (inCls 11 0)) L 143 (.ref 142) []))
        (retK Q) NoE (up s h₁ tk)) :
    wpAny (model PW w) A (call (.ref 143) [v0]) Q E s :=
  r_enter (binds := [(S "self", v0)]) (f143 _) (c143 _) R B k₀ W hW (BindsTo.of_eq (by rfl)) (locs (by rfl)) (by rfl) (by rfl) (by rfl) (by decide) fun g L h₁ tk SS => h g L h₁ tk (SS.congr (ml143 v0))
theorem lo143_self (SS : St w g L (V143 (some v)) led h) (q : Q v (up s h tk)) : wpAny M A (eval (.Name (Str.ofString "self") pos) (envX (S "Names.__init__") (fnS (inCls 11 0)) L 143 (.ref 142) [])) Q E (up s h tk) :=
  r_loc (s := up s h tk) SS (by rfl) q (by kernel_rfl) (by kernel_rfl) (by kernel_rfl)
theorem so143_self (SS : St w g L (V143 o0) led h)
    (q : ∀ h' tk', St w g L (V143 (some v)) led h' → (∀ b o, b ≠ L → h.get? b = some o → h'.get? b = some o) → U () (up s h' tk')) : wpAny M A (storeName (envX (S "Names.__init__") (fnS (inCls 11 0)) L 143 (.ref 142) []) (Str.ofString "self") v) U E (up s h tk) :=
  r_set SS (by rfl) q (by kernel_rfl) (by kernel_rfl)
theorem ml150 (v0 v1 : Value) : mp ([(S "self", v0), (S "tree", v1)].reverse.map fun x => (x.1, some x.2)) = mp (V150 (some v0) (some v1) none none) := mp_rev [(S "self", v0), (S "tree", v1)] [S "left", S "here"] (by kernel_rfl)
theorem en150 {v0 v1 : Value} (R : Room (n + 1) A) (B : Bs w h₀) (k₀ : h₀.StaysIn s.heap) (W : Led) (hW : ∀ p ∈ W, Has s.heap p ∧ h₀.get? p.1 = none)
    (h : ∀ g L h₁ tk, St w g L (V150 (some v0) (some v1) none none) W h₁ → h₀.StaysIn g → (∀ b o, b ∉ W.map (·.1) → s.heap.get? b = some o → g.get? b = some o) → (∀ b o, g.get? b = some o → s.heap.get? b = some o) →
      s.heap.StaysIn h₁ → Room n (A.deeper (envX (S "Names.look") (fnS (inCls 11 1)) L 150 (.ref 149) [])) → wpAny (model PW w) (A.deeper (envX (S "Names.look") (fnS (inCls 11 1)) L 150 (.ref 149) [])) (execs (fnB (inCls 11 1)) (envX (S "Names.look") (fnS (inCls 11 1)) L 150 (.ref 149) []))
        (retK Q) NoE (up s h₁ tk)) :
    wpAny (model PW w) A (call (.ref 150) [v0, v1]) Q E s :=
  r_enter (binds := [(S "self", v0), (S "tree", v1)]) (f150 _) (c150 _) R B k₀ W hW (BindsTo.of_eq (by rfl)) (locs (by rfl)) (by rfl) (by rfl) (by rfl) (by decide) fun g L h₁ tk SS => h g L h₁ tk (SS.congr (ml150 v0 v1))
theorem lo150_self (SS : St w g L (V150 (some v) o1 o2 o3) led h) (q : Q v (up s h tk)) : wpAny M A (eval (.Name (Str.ofString "self") pos) (envX (S "Names.look") (fnS (inCls 11 1)) L 150 (.ref 149) [])) Q E (up s h tk) :=
  r_loc (s := up s h tk) SS (by rfl) q (by kernel_rfl) (by kernel_rfl) (by kernel_rfl)
theorem so150_self (SS : St w g L (V150 o0 o1 o2 o3) led h)
    (q : ∀ h' tk', St w g L (V150 (some v) o1 o2 o3) led h' → (∀ b o, b ≠ L → h.get? b = some o → h'.get? b = some o) → U () (up s h' tk')) : wpAny M A (storeName (envX (S "Names.look") (fnS (inCls 11 1)) L 150 (.ref 149) []) (Str.ofString "self") v) U E (up s h tk) :=
  r_set SS (by rfl) q (by kernel_rfl) (by kernel_rfl)
theorem lo150_tree (SS : St w g L (V150 o0 (some v) o2 o3) led h) (q : Q v (up s h tk)) : wpAny M A (eval (.Name (Str.ofString "tree") pos) (envX (S "Names.look") (fnS (inCls 11 1)) L 150 (.ref 149) [])) Q E (up s h tk) :=
  r_loc (s := up s h tk) SS (by rfl) q (by kernel_rfl) (by kernel_rfl) (by kernel_rfl)
theorem so150_tree (SS : St w g L (V150 o0 o1 o2 o3) led h)
    (q : ∀ h' tk', St w g L (V150 o0 (some v) o2 o3) led h' → (∀ b o, b ≠ L → h.get? b = some o → h'.get? b = some o) → U () (up s h' tk')) : wpAny M A (storeName (envX (S "Names.look") (fnS (inCls 11 1)) L 150 (.ref 149) []) (Str.ofString "tree") v) U E (up s h tk) :=
  r_set SS (by rfl) q (by kernel_rfl) (by kernel_rfl)
theorem lo150_left (SS : St w g L (V150 o0 o1 (some v) o3) led h) (q : Q v (up s h tk)) : wpAny M A (eval (.Name (Str.ofString "left") pos) (envX (S "Names.look") (fnS (inCls 11 1)) L 150 (.ref 149) [])) Q E (up s h tk) :=
  r_loc (s := up s h tk) SS (by rfl) q (by kernel_rfl) (by kernel_rfl) (by kernel_rfl)
theorem so150_left (SS : St w g L (V150 o0 o1 o2 o3) led h)
    (q : ∀ h' tk', St w g L (V150 o0 o1 (some v) o3) led h' → (∀ b o, b ≠ L → h.get? b = some o → h'.get? b = some o) → U () (up s h' tk')) : wpAny M A (storeName (envX (S "Names.look") (fnS (inCls 11 1)) L 150 (.ref 149) []) (Str.ofString "left") v) U E (up s h tk) :=
  r_set SS (by rfl) q (by kernel_rfl) (by kernel_rfl)
theorem lo150_here (SS : St w g L (V150 o0 o1 o2 (some v)) led h) (q : Q v (up s h tk)) : wpAny M A (eval (.Name (Str.ofString "here") pos) (envX (S "Names.look") (fnS (inCls 11 1)) L 150 (.ref 149) [])) Q E (up s h tk) :=
  r_loc (s := up s h tk) SS (by rfl) q (by kernel_rfl) (by kernel_rfl) (by kernel_rfl)
theorem so150_here (SS : St w g L (V150 o0 o1 o2 o3) led h)
    (q : ∀ h' tk', St w g L (V150 o0 o1 o2 (some v)) led h' → (∀ b o, b ≠ L → h.get? b = some o → h'.get? b = some o) → U () (up s h' tk')) : wpAny M A (storeName (envX (S "Names.look") (fnS (inCls 11 1)) L 150 (.ref 149) []) (Str.ofString "here") v) U E (up s h tk) :=
  r_set SS (by rfl) q (by kernel_rfl) (by kernel_rfl)
theorem lo150_INNER (SS : St w g L l led h) (q : Q (.ref 51) (up s h tk)) : wpAny M A (eval (.Name (Str.ofString "INNER") pos) (envX (S "Names.look") (fnS (inCls 11 1)) L 150 (.ref 149) [])) Q E (up s h tk) :=
  r_glob (s := up s h tk) SS (g_INNER _) q (by kernel_rfl) (by kernel_rfl) (by kernel_rfl)
theorem lo150_ASSIGNS (SS : St w g L l led h) (q : Q (.ref 50) (up s h tk)) : wpAny M A (eval (.Name (Str.ofString "ASSIGNS") pos) (envX (S "Names.look") (fnS (inCls 11 1)) L 150 (.ref 149) [])) Q E (up s h tk) :=
  r_glob (s := up s h tk) SS (g_ASSIGNS _) q (by kernel_rfl) (by kernel_rfl) (by kernel_rfl)
theorem lo150_targets_of (SS : St w g L l led h) (q : Q (.ref 185) (up s h tk)) : wpAny M A (eval (.Name (Str.ofString "targets_of") pos) (envX (S "Names.look") (fnS (inCls 11 1)) L 150 (.ref 149) [])) Q E (up s h tk) :=
  r_glob (s := up s h tk) SS (g_targets_of _) q (by kernel_rfl) (by kernel_rfl) (by kernel_rfl)
theorem ca150_targets_of (SS : St w g L l led h)
    (he : starEach (e :: rest) (envX (S "Names.look") (fnS (inCls 11 1)) L 150 (.ref 149) []) = (false, eval e (envX (S "Names.look") (fnS (inCls 11 1)) L 150 (.ref 149) [])) :: starEach rest (envX (S "Names.look") (fnS (inCls 11 1)) L 150 (.ref 149) [])) (hplain : (backTo pos (starEach rest (envX (S "Names.look") (fnS (inCls 11 1)) L 150 (.ref 149) []))).any (·.1) = false)
    (q : wpAny (model PW w) A (spliced (backTo pos (starEach (e :: rest) (envX (S "Names.look") (fnS (inCls 11 1)) L 150 (.ref 149) [])))) (fun vs s₁ => (KK w.params).In s₁.heap ∧ wpAny (model PW w) A (call (.ref 185) vs) Q E s₁) E (up s h tk))
    (heq : eval (.Call (.Name (Str.ofString "targets_of") xp) (e :: rest) [] pos) (envX (S "Names.look") (fnS (inCls 11 1)) L 150 (.ref 149) []) = (do callWith pos (← eval (.Name (Str.ofString "targets_of") xp) (envX (S "Names.look") (fnS (inCls 11 1)) L 150 (.ref 149) [])) [] (backTo pos (starEach (e :: rest) (envX (S "Names.look") (fnS (inCls 11 1)) L 150 (.ref 149) []))) (backToKw pos (keywordEach [] (envX (S "Names.look") (fnS (inCls 11 1)) L 150 (.ref 149) []))))) :
    wpAny (model PW w) A (eval (.Call (.Name (Str.ofString "targets_of") xp) (e :: rest) [] pos) (envX (S "Names.look") (fnS (inCls 11 1)) L 150 (.ref 149) [])) Q E (up s h tk) :=
  r_call (s := up s h tk) SS (g_targets_of _) (kp185 _) (by kernel_rfl) (by kernel_rfl) (by kernel_rfl) he hplain q heq
theorem lo150_defined_by (SS : St w g L l led h) (q : Q (.ref 192) (up s h tk)) : wpAny M A (eval (.Name (Str.ofString "defined_by") pos) (envX (S "Names.look") (fnS (inCls 11 1)) L 150 (.ref 149) [])) Q E (up s h tk) :=
  r_glob (s := up s h tk) SS (g_defined_by _) q (by kernel_rfl) (by kernel_rfl) (by kernel_rfl)
theorem ca150_defined_by (SS : St w g L l led h)
    (he : starEach (e :: rest) (envX (S "Names.look") (fnS (inCls 11 1)) L 150 (.ref 149) []) = (false, eval e (envX (S "Names.look") (fnS (inCls 11 1)) L 150 (.ref 149) [])) :: starEach rest (envX (S "Names.look") (fnS (inCls 11 1)) L 150 (.ref 149) [])) (hplain : (backTo pos (starEach rest (envX (S "Names.look") (fnS (inCls 11 1)) L 150 (.ref 149) []))).any (·.1) = false)
    (q : wpAny (model PW w) A (spliced (backTo pos (starEach (e :: rest) (envX (S "Names.look") (fnS (inCls 11 1)) L 150 (.ref 149) [])))) (fun vs s₁ => (KK w.params).In s₁.heap ∧ wpAny (model PW w) A (call (.ref 192) vs) Q E s₁) E (up s h tk))
    (heq : eval (.Call (.Name (Str.ofString "defined_by") xp) (e :: rest) [] pos) (envX (S "Names.look") (fnS (inCls 11 1)) L 150 (.ref 149) []) = (do callWith pos (← eval (.Name (Str.ofString "defined_by") xp) (envX (S "Names.look") (fnS (inCls 11 1)) L 150 (.ref 149) [])) [] (backTo pos (starEach (e :: rest) (envX (S "Names.look") (fnS (inCls 11 1)) L 150 (.ref 149) []))) (backToKw pos (keywordEach [] (envX (S "Names.look") (fnS (inCls 11 1)) L 150 (.ref 149) []))))) :
    wpAny (model PW w) A (eval (.Call (.Name (Str.ofString "defined_by") xp) (e :: rest) [] pos) (envX (S "Names.look") (fnS (inCls 11 1)) L 150 (.ref 149) [])) Q E (up s h tk) :=
  r_call (s := up s h tk) SS (g_defined_by _) (kp192 _) (by kernel_rfl) (by kernel_rfl) (by kernel_rfl) he hplain q heq
theorem lo150_own_parts (SS : St w g L l led h) (q : Q (.ref 178) (up s h tk)) : wpAny M A (eval (.Name (Str.ofString "own_parts") pos) (envX (S "Names.look") (fnS (inCls 11 1)) L 150 (.ref 149) [])) Q E (up s h tk) :=
  r_glob (s := up s h tk) SS (g_own_parts _) q (by kernel_rfl) (by kernel_rfl) (by kernel_rfl)
theorem ca150_own_parts (SS : St w g L l led h)
    (he : starEach (e :: rest) (envX (S "Names.look") (fnS (inCls 11 1)) L 150 (.ref 149) []) = (false, eval e (envX (S "Names.look") (fnS (inCls 11 1)) L 150 (.ref 149) [])) :: starEach rest (envX (S "Names.look") (fnS (inCls 11 1)) L 150 (.ref 149) [])) (hplain : (backTo pos (starEach rest (envX (S "Names.look") (fnS (inCls 11 1)) L 150 (.ref 149) []))).any (·.1) = false)
    (q : wpAny (model PW w) A (spliced (backTo pos (starEach (e :: rest) (envX (S "Names.look") (fnS (inCls 11 1)) L 150 (.ref 149) [])))) (fun vs s₁ => (KK w.params).In s₁.heap ∧ wpAny (model PW w) A (call (.ref 178) vs) Q E s₁) E (up s h tk))
    (heq : eval (.Call (.Name (Str.ofString "own_parts") xp) (e :: rest) [] pos) (envX (S "Names.look") (fnS (inCls 11 1)) L 150 (.ref 149) []) = (do callWith pos (← eval (.Name (Str.ofString "own_parts") xp) (envX (S "Names.look") (fnS (inCls 11 1)) L 150 (.ref 149) [])) [] (backTo pos (starEach (e :: rest) (envX (S "Names.look") (fnS (inCls 11 1)) L 150 (.ref 149) []))) (backToKw pos (keywordEach [] (envX (S "Names.look") (fnS (inCls 11 1)) L 150 (.ref 149) []))))) :
    wpAny (model PW w) A (eval (.Call (.Name (Str.ofString "own_parts") xp) (e :: rest) [] pos) (envX (S "Names.look") (fnS (inCls 11 1)) L 150 (.ref 149) [])) Q E (up s h tk) :=
  r_call (s := up s h tk) SS (g_own_parts _) (kp178 _) (by kernel_rfl) (by kernel_rfl) (by kernel_rfl) he hplain q heq
theorem ml157 (v0 v1 : Value) : mp ([(S "self", v0), (S "tree", v1)].reverse.map fun x => (x.1, some x.2)) = mp (V157 (some v0) (some v1) none none) := mp_rev [(S "self", v0), (S "tree", v1)] [S "place", S "names"] (by kernel_rfl)
theorem en157 {v0 v1 : Value} (R : Room (n + 1) A) (B : Bs w h₀) (k₀ : h₀.StaysIn s.heap) (W : Led) (hW : ∀ p ∈ W, Has s.heap p ∧ h₀.get? p.1 = none)
    (h : ∀ g L h₁ tk, St w g L (V157 (some v0) (some v1) none none) W h₁ → h₀.StaysIn g → (∀ b o, b ∉ W.map (·.1) → s.heap.get? b = some o → g.get? b = some o) → (∀ b o, g.get? b = some o → s.heap.get? b = some o) →
      s.heap.StaysIn h₁ → Room n (A.deeper (envX (S "Names.told") (fnS (inCls 11 2)) L 157 (.ref 156) [])) → wpAny (model PW w) (A.deeper (envX (S "Names.told") (fnS (inCls 11 2)) L 157 (.ref 156) [])) (execs (fnB (inCls 11 2)) (envX (S "Names.told") (fnS (inCls 11 2)) L 157 (.ref 156) []))
        (retK Q) NoE (up s h₁ tk)) :
    wpAny (model PW w) A (call (.ref 157) [v0, v1]) Q E s :=
  r_enter (binds := [(S "self", v0), (S "tree", v1)]) (f157 _) (c157 _) R B k₀ W hW (BindsTo.of_eq (by rfl)) (locs (by rfl)) (by rfl) (by rfl) (by rfl) (by decide) fun g L h₁ tk SS => h g L h₁ tk (SS.congr (ml157 v0 v1))
theorem lo157_self (SS : St w g L (V157 (some v) o1 o2 o3) led h) (q : Q v (up s h tk)) : wpAny M A (eval (.Name (Str.ofString "self") pos) (envX (S "Names.told") (fnS (inCls 11 2)) L 157 (.ref 156) [])) Q E (up s h tk) :=
  r_loc (s := up s h tk) SS (by rfl) q (by kernel_rfl) (by kernel_rfl) (by kernel_rfl)
theorem so157_self (SS : St w g L (V157 o0 o1 o2 o3) led h)
    (q : ∀ h' tk', St w g L (V157 (some v) o1 o2 o3) led h' → (∀ b o, b ≠ L → h.get? b = some o → h'.get? b = some o) → U () (up s h' tk')) : wpAny M A (storeName (envX (S "Names.told") (fnS (inCls 11 2)) L 157 (.ref 156) []) (Str.ofString "self") v) U E (up s h tk) :=
  r_set SS (by rfl) q (by kernel_rfl) (by kernel_rfl)
theorem lo157_tree (SS : St w g L (V157 o0 (some v) o2 o3) led h) (q : Q v (up s h tk)) : wpAny M A (eval (.Name (Str.ofString "tree") pos) (envX (S "Names.told") (fnS (inCls 11 2)) L 157 (.ref 156) [])) Q E (up s h tk) :=
  r_loc (s := up s h tk) SS (by rfl) q (by kernel_rfl) (by kernel_rfl) (by kernel_rfl)
theorem so157_tree (SS : St w g L (V157 o0 o1 o2 o3) led h)
    (q : ∀ h' tk', St w g L (V157 o0 (some v) o2 o3) led h' → (∀ b o, b ≠ L → h.get? b = some o → h'.get? b = some o) → U () (up s h' tk')) : wpAny M A (storeName (envX (S "Names.told") (fnS (inCls 11 2)) L 157 (.ref 156) []) (Str.ofString "tree") v) U E (up s h tk) :=
  r_set SS (by rfl) q (by kernel_rfl) (by kernel_rfl)
theorem lo157_place (SS : St w g L (V157 o0 o1 (some v) o3) led h) (q : Q v (up s h tk)) : wpAny M A (eval (.Name (Str.ofString "place") pos) (envX (S "Names.told") (fnS (inCls 11 2)) L 157 (.ref 156) [])) Q E (up s h tk) :=
  r_loc (s := up s h tk) SS (by rfl) q (by kernel_rfl) (by kernel_rfl) (by kernel_rfl)
theorem so157_place (SS : St w g L (V157 o0 o1 o2 o3) led h)
    (q : ∀ h' tk', St w g L (V157 o0 o1 (some v) o3) led h' → (∀ b o, b ≠ L → h.get? b = some o → h'.get? b = some o) → U () (up s h' tk')) : wpAny M A (storeName (envX (S "Names.told") (fnS (inCls 11 2)) L 157 (.ref 156) []) (Str.ofString "place") v) U E (up s h tk) :=
  r_set SS (by rfl) q (by kernel_rfl) (by kernel_rfl)
theorem lo157_names (SS : St w g L (V157 o0 o1 o2 (some v)) led h) (q : Q v (up s h tk)) : wpAny M A (eval (.Name (Str.ofString "names") pos) (envX (S "Names.told") (fnS (inCls 11 2)) L 157 (.ref 156) [])) Q E (up s h tk) :=
  r_loc (s := up s h tk) SS (by rfl) q (by kernel_rfl) (by kernel_rfl) (by kernel_rfl)
theorem so157_names (SS : St w g L (V157 o0 o1 o2 o3) led h)
    (q : ∀ h' tk', St w g L (V157 o0 o1 o2 (some v)) led h' → (∀ b o, b ≠ L → h.get? b = some o → h'.get? b = some o) → U () (up s h' tk')) : wpAny M A (storeName (envX (S "Names.told") (fnS (inCls 11 2)) L 157 (.ref 156) []) (Str.ofString "names") v) U E (up s h tk) :=
  r_set SS (by rfl) q (by kernel_rfl) (by kernel_rfl)
theorem lo157_ASSIGNS (SS : St w g L l led h) (q : Q (.ref 50) (up s h tk)) : wpAny M A (eval (.Name (Str.ofString "ASSIGNS") pos) (envX (S "Names.told") (fnS (inCls 11 2)) L 157 (.ref 156) [])) Q E (up s h tk) :=
  r_glob (s := up s h tk) SS (g_ASSIGNS _) q (by kernel_rfl) (by kernel_rfl) (by kernel_rfl)
theorem lo157_targets_of (SS : St w g L l led h) (q : Q (.ref 185) (up s h tk)) : wpAny M A (eval (.Name (Str.ofString "targets_of") pos) (envX (S "Names.told") (fnS (inCls 11 2)) L 157 (.ref 156) [])) Q E (up s h tk) :=
  r_glob (s := up s h tk) SS (g_targets_of _) q (by kernel_rfl) (by kernel_rfl) (by kernel_rfl)
theorem ca157_targets_of (SS : St w g L l led h)
    (he : starEach (e :: rest) (envX (S "Names.told") (fnS (inCls 11 2)) L 157 (.ref 156) []) = (false, eval e (envX (S "Names.told") (fnS (inCls 11 2)) L 157 (.ref 156) [])) :: starEach rest (envX (S "Names.told") (fnS (inCls 11 2)) L 157 (.ref 156) [])) (hplain : (backTo pos (starEach rest (envX (S "Names.told") (fnS (inCls 11 2)) L 157 (.ref 156) []))).any (·.1) = false)
    (q : wpAny (model PW w) A (spliced (backTo pos (starEach (e :: rest) (envX (S "Names.told") (fnS (inCls 11 2)) L 157 (.ref 156) [])))) (fun vs s₁ => (KK w.params).In s₁.heap ∧ wpAny (model PW w) A (call (.ref 185) vs) Q E s₁) E (up s h tk))
    (heq : eval (.Call (.Name (Str.ofString "targets_of") xp) (e :: rest) [] pos) (envX (S "Names.told") (fnS (inCls 11 2)) L 157 (.ref 156) []) = (do callWith pos (← eval (.Name (Str.ofString "targets_of") xp) (envX (S "Names.told") (fnS (inCls 11 2)) L 157 (.ref 156) [])) [] (backTo pos (starEach (e :: rest) (envX (S "Names.told") (fnS (inCls 11 2)) L 157 (.ref 156) []))) (backToKw pos (keywordEach [] (envX (S "Names.told") (fnS (inCls 11 2)) L 157 (.ref 156) []))))) :
    wpAny (model PW w) A (eval (.Call (.Name (Str.ofString "targets_of") xp) (e :: rest) [] pos) (envX (S "Names.told") (fnS (inCls 11 2)) L 157 (.ref 156) [])) Q E (up s h tk) :=
  r_call (s := up s h tk) SS (g_targets_of _) (kp185 _) (by kernel_rfl) (by kernel_rfl) (by kernel_rfl) he hplain q heq
theorem ml164 (v0 v1 v2 : Value) : mp ([(S "self", v0), (S "some", v1), (S "names", v2)].reverse.map fun x => (x.1, some x.2)) = mp (V164 (some v0) (some v1) (some v2) none) := mp_rev [(S "self", v0), (S "some", v1), (S "names", v2)] [S "name"] (by kernel_rfl)
theorem en164 {v0 v1 v2 : Value} (R : Room (n + 1) A) (B : Bs w h₀) (k₀ : h₀.StaysIn s.heap) (W : Led) (hW : ∀ p ∈ W, Has s.heap p ∧ h₀.get? p.1 = none)
    (h : ∀ g L h₁ tk, St w g L (V164 (some v0) (some v1) (some v2) none) W h₁ → h₀.StaysIn g → (∀ b o, b ∉ W.map (·.1) → s.heap.get? b = some o → g.get? b = some o) → (∀ b o, g.get? b = some o → s.heap.get? b = some o) →
      s.heap.StaysIn h₁ → Room n (A.deeper (envX (S "Names.put") (fnS (inCls 11 3)) L 164 (.ref 163) [])) → wpAny (model PW w) (A.deeper (envX (S "Names.put") (fnS (inCls 11 3)) L 164 (.ref 163) [])) (execs (fnB (inCls 11 3)) (envX (S "Names.put") (fnS (inCls 11 3)) L 164 (.ref 163) []))
        (retK Q) NoE (up s h₁ tk)) :
    wpAny (model PW w) A (call (.ref 164) [v0, v1, v2]) Q E s :=
  r_enter (binds := [(S "self", v0), (S "some", v1), (S "names", v2)]) (f164 _) (c164 _) R B k₀ W hW (BindsTo.of_eq (by rfl)) (locs (by rfl)) (by rfl) (by rfl) (by rfl) (by decide) fun g L h₁ tk SS => h g L h₁ tk (SS.congr (ml164 v0 v1 v2))
theorem lo164_self (SS : St w g L (V164 (some v) o1 o2 o3) led h) (q : Q v (up s h tk)) : wpAny M A (eval (.Name (Str.ofString "self") pos) (envX (S "Names.put") (fnS (inCls 11 3)) L 164 (.ref 163) [])) Q E (up s h tk) :=
  r_loc (s := up s h tk) SS (by rfl) q (by kernel_rfl) (by kernel_rfl) (by kernel_rfl)
theorem so164_self (SS : St w g L (V164 o0 o1 o2 o3) led h)
    (q : ∀ h' tk', St w g L (V164 (some v) o1 o2 o3) led h' → (∀ b o, b ≠ L → h.get? b = some o → h'.get? b = some o) → U () (up s h' tk')) : wpAny M A (storeName (envX (S "Names.put") (fnS (inCls 11 3)) L 164 (.ref 163) []) (Str.ofString "self") v) U E (up s h tk) :=
  r_set SS (by rfl) q (by kernel_rfl) (by kernel_rfl)
theorem lo164_some (SS : St w g L (V164 o0 (some v) o2 o3) led h) (q : Q v (up s h tk)) : wpAny M A (eval (.Name (Str.ofString "some") pos) (envX (S "Names.put") (fnS (inCls 11 3)) L 164 (.ref 163) [])) Q E (up s h tk) :=
  r_loc (s := up s h tk) SS (by rfl) q (by kernel_rfl) (by kernel_rfl) (by kernel_rfl)
theorem so164_some (SS : St w g L (V164 o0 o1 o2 o3) led h)
    (q : ∀ h' tk', St w g L (V164 o0 (some v) o2 o3) led h' → (∀ b o, b ≠ L → h.get? b = some o → h'.get? b = some o) → U () (up s h' tk')) : wpAny M A (storeName (envX (S "Names.put") (fnS (inCls 11 3)) L 164 (.ref 163) []) (Str.ofString "some") v) U E (up s h tk) :=
  r_set SS (by rfl) q (by kernel_rfl) (by kernel_rfl)
theorem lo164_names (SS : St w g L (V164 o0 o1 (some v) o3) led h) (q : Q v (up s h tk)) : wpAny M A (eval (.Name (Str.ofString "names") pos) (envX (S "Names.put") (fnS (inCls 11 3)) L 164 (.ref 163) [])) Q E (up s h tk) :=
  r_loc (s := up s h tk) SS (by rfl) q (by kernel_rfl) (by kernel_rfl) (by kernel_rfl)
theorem so164_names (SS : St w g L (V164 o0 o1 o2 o3) led h)
    (q : ∀ h' tk', St w g L (V164 o0 o1 (some v) o3) led h' → (∀ b o, b ≠ L → h.get? b = some o → h'.get? b = some o) → U () (up s h' tk')) : wpAny M A (storeName (envX (S "Names.put") (fnS (inCls 11 3)) L 164 (.ref 163) []) (Str.ofString "names") v) U E (up s h tk) :=
  r_set SS (by rfl) q (by kernel_rfl) (by kernel_rfl)
theorem lo164_name (SS : St w g L (V164 o0 o1 o2 (some v)) led h) (q : Q v (up s h tk)) : wpAny M A (eval (.Name (Str.ofString "name") pos) (envX (S "Names.put") (fnS (inCls 11 3)) L 164 (.ref 163) [])) Q E (up s h tk) :=
  r_loc (s := up s h tk) SS (by rfl) q (by kernel_rfl) (by kernel_rfl) (by kernel_rfl)
theorem so164_name (SS : St w g L (V164 o0 o1 o2 o3) led h)
    (q : ∀ h' tk', St w g L (V164 o0 o1 o2 (some v)) led h' → (∀ b o, b ≠ L → h.get? b = some o → h'.get? b = some o) → U () (up s h' tk')) : wpAny M A (storeName (envX (S "Names.put") (fnS (inCls 11 3)) L 164 (.ref 163) []) (Str.ofString "name") v) U E (up s h tk) :=
  r_set SS (by rfl) q (by kernel_rfl) (by kernel_rfl)
theorem ml178 (v0 : Value) : mp ([(S "tree", v0)].reverse.map fun x => (x.1, some x.2)) = mp (V178 (some v0) none none) := mp_rev [(S "tree", v0)] [S "head", S "parts"] (by kernel_rfl)
theorem en178 {v0 : Value} (R : Room (n + 1) A) (B : Bs w h₀) (k₀ : h₀.StaysIn s.heap) (W : Led) (hW : ∀ p ∈ W, Has s.heap p ∧ h₀.get? p.1 = none)
    (h : ∀ g L h₁ tk, St w g L (V178 (some v0) none none) W h₁ → h₀.StaysIn g → (∀ b o, b ∉ W.map (·.1) → s.heap.get? b = some o → g.get? b = some o) → (∀ b o, g.get? b = some o → s.heap.get? b = some o) →
      s.heap.StaysIn h₁ → Room n (A.deeper (envX (S "own_parts") (fnS (stAt 12)) L 178 (.ref 177) [])) → wpAny (model PW w) (A.deeper (envX (S "own_parts") (fnS (stAt 12)) L 178 (.ref 177) [])) (execs (fnB (stAt 12)) (envX (S "own_parts") (fnS (stAt 12)) L 178 (.ref 177) []))
        (retK Q) NoE (up s h₁ tk)) :
    wpAny (model PW w) A (call (.ref 178) [v0]) Q E s :=
  r_enter (binds := [(S "tree", v0)]) (f178 _) (c178 _) R B k₀ W hW (BindsTo.of_eq (by rfl)) (locs (by rfl)) (by rfl) (by rfl) (by rfl) (by decide) fun g L h₁ tk SS => h g L h₁ tk (SS.congr (ml178 v0))
theorem lo178_tree (SS : St w g L (V178 (some v) o1 o2) led h) (q : Q v (up s h tk)) : wpAny M A (eval (.Name (Str.ofString "tree") pos) (envX (S "own_parts") (fnS (stAt 12)) L 178 (.ref 177) [])) Q E (up s h tk) :=
  r_loc (s := up s h tk) SS (by rfl) q (by kernel_rfl) (by kernel_rfl) (by kernel_rfl)
theorem so178_tree (SS : St w g L (V178 o0 o1 o2) led h)
    (q : ∀ h' tk', St w g L (V178 (some v) o1 o2) led h' → (∀ b o, b ≠ L → h.get? b = some o → h'.get? b = some o) → U () (up s h' tk')) : wpAny M A (storeName (envX (S "own_parts") (fnS (stAt 12)) L 178 (.ref 177) []) (Str.ofString "tree") v) U E (up s h tk) :=
  r_set SS (by rfl) q (by kernel_rfl) (by kernel_rfl)
theorem lo178_head (SS : St w g L (V178 o0 (some v) o2) led h) (q : Q v (up s h tk)) : wpAny M A (eval (.Name (Str.ofString "head") pos) (envX (S "own_parts") (fnS (stAt 12)) L 178 (.ref 177) [])) Q E (up s h tk) :=
  r_loc (s := up s h tk) SS (by rfl) q (by kernel_rfl) (by kernel_rfl) (by kernel_rfl)
theorem so178_head (SS : St w g L (V178 o0 o1 o2) led h)
    (q : ∀ h' tk', St w g L (V178 o0 (some v) o2) led h' → (∀ b o, b ≠ L → h.get? b = some o → h'.get? b = some o) → U () (up s h' tk')) : wpAny M A (storeName (envX (S "own_parts") (fnS (stAt 12)) L 178 (.ref 177) []) (Str.ofString "head") v) U E (up s h tk) :=
  r_set SS (by rfl) q (by kernel_rfl) (by kernel_rfl)
theorem lo178_parts (SS : St w g L (V178 o0 o1 (some v)) led h) (q : Q v (up s h tk)) : wpAny M A (eval (.Name (Str.ofString "parts") pos) (envX (S "own_parts") (fnS (stAt 12)) L 178 (.ref 177) [])) Q E (up s h tk) :=
  r_loc (s := up s h tk) SS (by rfl) q (by kernel_rfl) (by kernel_rfl) (by kernel_rfl)
theorem so178_parts (SS : St w g L (V178 o0 o1 o2) led h)
    (q : ∀ h' tk', St w g L (V178 o0 o1 (some v)) led h' → (∀ b o, b ≠ L → h.get? b = some o → h'.get? b = some o) → U () (up s h' tk')) : wpAny M A (storeName (envX (S "own_parts") (fnS (stAt 12)) L 178 (.ref 177) []) (Str.ofString "parts") v) U E (up s h tk) :=
  r_set SS (by rfl) q (by kernel_rfl) (by kernel_rfl)
theorem ml185 (v0 : Value) : mp ([(S "place", v0)].reverse.map fun x => (x.1, some x.2)) = mp (V185 (some v0) none none) := mp_rev [(S "place", v0)] [S "found", S "part"] (by kernel_rfl)
theorem en185 {v0 : Value} (R : Room (n + 1) A) (B : Bs w h₀) (k₀ : h₀.StaysIn s.heap) (W : Led) (hW : ∀ p ∈ W, Has s.heap p ∧ h₀.get? p.1 = none)
    (h : ∀ g L h₁ tk, St w g L (V185 (some v0) none none) W h₁ → h₀.StaysIn g → (∀ b o, b ∉ W.map (·.1) → s.heap.get? b = some o → g.get? b = some o) → (∀ b o, g.get? b = some o → s.heap.get? b = some o) →
      s.heap.StaysIn h₁ → Room n (A.deeper (envX (S "targets_of") (fnS (stAt 13)) L 185 (.ref 184) [])) → wpAny (model PW w) (A.deeper (envX (S "targets_of") (fnS (stAt 13)) L 185 (.ref 184) [])) (execs (fnB (stAt 13)) (envX (S "targets_of") (fnS (stAt 13)) L 185 (.ref 184) []))
        (retK Q) NoE (up s h₁ tk)) :
    wpAny (model PW w) A (call (.ref 185) [v0]) Q E s :=
  r_enter (binds := [(S "place", v0)]) (f185 _) (c185 _) R B k₀ W hW (BindsTo.of_eq (by rfl)) (locs (by rfl)) (by rfl) (by rfl) (by rfl) (by decide) fun g L h₁ tk SS => h g L h₁ tk (SS.congr (ml185 v0))
theorem lo185_place (SS : St w g L (V185 (some v) o1 o2) led h) (q : Q v (up s h tk)) : wpAny M A (eval (.Name (Str.ofString "place") pos) (envX (S "targets_of") (fnS (stAt 13)) L 185 (.ref 184) [])) Q E (up s h tk) :=
  r_loc (s := up s h tk) SS (by rfl) q (by kernel_rfl) (by kernel_rfl) (by kernel_rfl)
theorem so185_place (SS : St w g L (V185 o0 o1 o2) led h)
    (q : ∀ h' tk', St w g L (V185 (some v) o1 o2) led h' → (∀ b o, b ≠ L → h.get? b = some o → h'.get? b = some o) → U () (up s h' tk')) : wpAny M A (storeName (envX (S "targets_of") (fnS (stAt 13)) L 185 (.ref 184) []) (Str.ofString "place") v) U E (up s h tk) :=
  r_set SS (by rfl) q (by kernel_rfl) (by kernel_rfl)
theorem lo185_found (SS : St w g L (V185 o0 (some v) o2) led h) (q : Q v (up s h tk)) : wpAny M A (eval (.Name (Str.ofString "found") pos) (envX (S "targets_of") (fnS (stAt 13)) L 185 (.ref 184) [])) Q E (up s h tk) :=
  r_loc (s := up s h tk) SS (by rfl) q (by kernel_rfl) (by kernel_rfl) (by kernel_rfl)
theorem so185_found (SS : St w g L (V185 o0 o1 o2) led h)
    (q : ∀ h' tk', St w g L (V185 o0 (some v) o2) led h' → (∀ b o, b ≠ L → h.get? b = some o → h'.get? b = some o) → U () (up s h' tk')) : wpAny M A (storeName (envX (S "targets_of") (fnS (stAt 13)) L 185 (.ref 184) []) (Str.ofString "found") v) U E (up s h tk) :=
  r_set SS (by rfl) q (by kernel_rfl) (by kernel_rfl)
theorem lo185_part (SS : St w g L (V185 o0 o1 (some v)) led h) (q : Q v (up s h tk)) : wpAny M A (eval (.Name (Str.ofString "part") pos) (envX (S "targets_of") (fnS (stAt 13)) L 185 (.ref 184) [])) Q E (up s h tk) :=
  r_loc (s := up s h tk) SS (by rfl) q (by kernel_rfl) (by kernel_rfl) (by kernel_rfl)
theorem so185_part (SS : St w g L (V185 o0 o1 o2) led h)
    (q : ∀ h' tk', St w g L (V185 o0 o1 (some v)) led h' → (∀ b o, b ≠ L → h.get? b = some o → h'.get? b = some o) → U () (up s h' tk')) : wpAny M A (storeName (envX (S "targets_of") (fnS (stAt 13)) L 185 (.ref 184) []) (Str.ofString "part") v) U E (up s h tk) :=
  r_set SS (by rfl) q (by kernel_rfl) (by kernel_rfl)
theorem lo185_is_sym (SS : St w g L l led h) (q : Q (.ref 49) (up s h tk)) : wpAny M A (eval (.Name (Str.ofString "is_sym") pos) (envX (S "targets_of") (fnS (stAt 13)) L 185 (.ref 184) [])) Q E (up s h tk) :=
  r_glob (s := up s h tk) SS (g_is_sym _) q (by kernel_rfl) (by kernel_rfl) (by kernel_rfl)
theorem ca185_is_sym (SS : St w g L l led h)
    (he : starEach (e :: rest) (envX (S "targets_of") (fnS (stAt 13)) L 185 (.ref 184) []) = (false, eval e (envX (S "targets_of") (fnS (stAt 13)) L 185 (.ref 184) [])) :: starEach rest (envX (S "targets_of") (fnS (stAt 13)) L 185 (.ref 184) [])) (hplain : (backTo pos (starEach rest (envX (S "targets_of") (fnS (stAt 13)) L 185 (.ref 184) []))).any (·.1) = false)
    (q : wpAny (model PW w) A (spliced (backTo pos (starEach (e :: rest) (envX (S "targets_of") (fnS (stAt 13)) L 185 (.ref 184) [])))) (fun vs s₁ => (KK w.params).In s₁.heap ∧ wpAny (model PW w) A (call (.ref 49) vs) Q E s₁) E (up s h tk))
    (heq : eval (.Call (.Name (Str.ofString "is_sym") xp) (e :: rest) [] pos) (envX (S "targets_of") (fnS (stAt 13)) L 185 (.ref 184) []) = (do callWith pos (← eval (.Name (Str.ofString "is_sym") xp) (envX (S "targets_of") (fnS (stAt 13)) L 185 (.ref 184) [])) [] (backTo pos (starEach (e :: rest) (envX (S "targets_of") (fnS (stAt 13)) L 185 (.ref 184) []))) (backToKw pos (keywordEach [] (envX (S "targets_of") (fnS (stAt 13)) L 185 (.ref 184) []))))) :
    wpAny (model PW w) A (eval (.Call (.Name (Str.ofString "is_sym") xp) (e :: rest) [] pos) (envX (S "targets_of") (fnS (stAt 13)) L 185 (.ref 184) [])) Q E (up s h tk) :=
  r_call (s := up s h tk) SS (g_is_sym _) (kp49 _) (by kernel_rfl) (by kernel_rfl) (by kernel_rfl) he hplain q heq
theorem lo185_is_expr (SS : St w g L l led h) (q : Q (.ref 28) (up s h tk)) : wpAny M A (eval (.Name (Str.ofString "is_expr") pos) (envX (S "targets_of") (fnS (stAt 13)) L 185 (.ref 184) [])) Q E (up s h tk) :=
  r_glob (s := up s h tk) SS (g_is_expr _) q (by kernel_rfl) (by kernel_rfl) (by kernel_rfl)
theorem ca185_is_expr (SS : St w g L l led h)
    (he : starEach (e :: rest) (envX (S "targets_of") (fnS (stAt 13)) L 185 (.ref 184) []) = (false, eval e (envX (S "targets_of") (fnS (stAt 13)) L 185 (.ref 184) [])) :: starEach rest (envX (S "targets_of") (fnS (stAt 13)) L 185 (.ref 184) [])) (hplain : (backTo pos (starEach rest (envX (S "targets_of") (fnS (stAt 13)) L 185 (.ref 184) []))).any (·.1) = false)
    (q : wpAny (model PW w) A (spliced (backTo pos (starEach (e :: rest) (envX (S "targets_of") (fnS (stAt 13)) L 185 (.ref 184) [])))) (fun vs s₁ => (KK w.params).In s₁.heap ∧ wpAny (model PW w) A (call (.ref 28) vs) Q E s₁) E (up s h tk))
    (heq : eval (.Call (.Name (Str.ofString "is_expr") xp) (e :: rest) [] pos) (envX (S "targets_of") (fnS (stAt 13)) L 185 (.ref 184) []) = (do callWith pos (← eval (.Name (Str.ofString "is_expr") xp) (envX (S "targets_of") (fnS (stAt 13)) L 185 (.ref 184) [])) [] (backTo pos (starEach (e :: rest) (envX (S "targets_of") (fnS (stAt 13)) L 185 (.ref 184) []))) (backToKw pos (keywordEach [] (envX (S "targets_of") (fnS (stAt 13)) L 185 (.ref 184) []))))) :
    wpAny (model PW w) A (eval (.Call (.Name (Str.ofString "is_expr") xp) (e :: rest) [] pos) (envX (S "targets_of") (fnS (stAt 13)) L 185 (.ref 184) [])) Q E (up s h tk) :=
  r_call (s := up s h tk) SS (g_is_expr _) (kp28 _) (by kernel_rfl) (by kernel_rfl) (by kernel_rfl) he hplain q heq
theorem lo185_len (SS : St w g L l led h) (q : Q (.builtin "len") (up s h tk)) : wpAny M A (eval (.Name (Str.ofString "len") pos) (envX (S "targets_of") (fnS (stAt 13)) L 185 (.ref 184) [])) Q E (up s h tk) :=
  r_blt (s := up s h tk) SS (b_len _) (by kernel_rfl) (by decide) q (by kernel_rfl) (by kernel_rfl) (by kernel_rfl)
theorem lo185_targets_of (SS : St w g L l led h) (q : Q (.ref 185) (up s h tk)) : wpAny M A (eval (.Name (Str.ofString "targets_of") pos) (envX (S "targets_of") (fnS (stAt 13)) L 185 (.ref 184) [])) Q E (up s h tk) :=
  r_glob (s := up s h tk) SS (g_targets_of _) q (by kernel_rfl) (by kernel_rfl) (by kernel_rfl)
theorem ca185_targets_of (SS : St w g L l led h)
    (he : starEach (e :: rest) (envX (S "targets_of") (fnS (stAt 13)) L 185 (.ref 184) []) = (false, eval e (envX (S "targets_of") (fnS (stAt 13)) L 185 (.ref 184) [])) :: starEach rest (envX (S "targets_of") (fnS (stAt 13)) L 185 (.ref 184) [])) (hplain : (backTo pos (starEach rest (envX (S "targets_of") (fnS (stAt 13)) L 185 (.ref 184) []))).any (·.1) = false)
    (q : wpAny (model PW w) A (spliced (backTo pos (starEach (e :: rest) (envX (S "targets_of") (fnS (stAt 13)) L 185 (.ref 184) [])))) (fun vs s₁ => (KK w.params).In s₁.heap ∧ wpAny (model PW w) A (call (.ref 185) vs) Q E s₁) E (up s h tk))
    (heq : eval (.Call (.Name (Str.ofString "targets_of") xp) (e :: rest) [] pos) (envX (S "targets_of") (fnS (stAt 13)) L 185 (.ref 184) []) = (do callWith pos (← eval (.Name (Str.ofString "targets_of") xp) (envX (S "targets_of") (fnS (stAt 13)) L 185 (.ref 184) [])) [] (backTo pos (starEach (e :: rest) (envX (S "targets_of") (fnS (stAt 13)) L 185 (.ref 184) []))) (backToKw pos (keywordEach [] (envX (S "targets_of") (fnS (stAt 13)) L 185 (.ref 184) []))))) :
    wpAny (model PW w) A (eval (.Call (.Name (Str.ofString "targets_of") xp) (e :: rest) [] pos) (envX (S "targets_of") (fnS (stAt 13)) L 185 (.ref 184) [])) Q E (up s h tk) :=
  r_call (s := up s h tk) SS (g_targets_of _) (kp185 _) (by kernel_rfl) (by kernel_rfl) (by kernel_rfl) he hplain q heq
theorem ml192 (v0 : Value) : mp ([(S "tree", v0)].reverse.map fun x => (x.1, some x.2)) = mp (V28 (some v0) none) := mp_rev [(S "tree", v0)] [S "head"] (by kernel_rfl)
theorem en192 {v0 : Value} (R : Room (n + 1) A) (B : Bs w h₀) (k₀ : h₀.StaysIn s.heap) (W : Led) (hW : ∀ p ∈ W, Has s.heap p ∧ h₀.get? p.1 = none)
    (h : ∀ g L h₁ tk, St w g L (V28 (some v0) none) W h₁ → h₀.StaysIn g → (∀ b o, b ∉ W.map (·.1) → s.heap.get? b = some o → g.get? b = some o) → (∀ b o, g.get? b = some o → s.heap.get? b = some o) →
      s.heap.StaysIn h₁ → Room n (A.deeper (envX (S "defined_by") (fnS (stAt 14)) L 192 (.ref 191) [])) → wpAny (model PW w) (A.deeper (envX (S "defined_by") (fnS (stAt 14)) L 192 (.ref 191) [])) (execs (fnB (stAt 14)) (envX (S "defined_by") (fnS (stAt 14)) L 192 (.ref 191) []))
        (retK Q) NoE (up s h₁ tk)) :
    wpAny (model PW w) A (call (.ref 192) [v0]) Q E s :=
  r_enter (binds := [(S "tree", v0)]) (f192 _) (c192 _) R B k₀ W hW (BindsTo.of_eq (by rfl)) (locs (by rfl)) (by rfl) (by rfl) (by rfl) (by decide) fun g L h₁ tk SS => h g L h₁ tk (SS.congr (ml192 v0))
theorem lo192_tree (SS : St w g L (V28 (some v) o1) led h) (q : Q v (up s h tk)) : wpAny M A (eval (.Name (Str.ofString "tree") pos) (envX (S "defined_by") (fnS (stAt 14)) L 192 (.ref 191) [])) Q E (up s h tk) :=
  r_loc (s := up s h tk) SS (by rfl) q (by kernel_rfl) (by kernel_rfl) (by kernel_rfl)
theorem so192_tree (SS : St w g L (V28 o0 o1) led h)
    (q : ∀ h' tk', St w g L (V28 (some v) o1) led h' → (∀ b o, b ≠ L → h.get? b = some o → h'.get? b = some o) → U () (up s h' tk')) : wpAny M A (storeName (envX (S "defined_by") (fnS (stAt 14)) L 192 (.ref 191) []) (Str.ofString "tree") v) U E (up s h tk) :=
  r_set SS (by rfl) q (by kernel_rfl) (by kernel_rfl)
theorem lo192_head (SS : St w g L (V28 o0 (some v)) led h) (q : Q v (up s h tk)) : wpAny M A (eval (.Name (Str.ofString "head") pos) (envX (S "defined_by") (fnS (stAt 14)) L 192 (.ref 191) [])) Q E (up s h tk) :=
  r_loc (s := up s h tk) SS (by rfl) q (by kernel_rfl) (by kernel_rfl) (by kernel_rfl)
theorem so192_head (SS : St w g L (V28 o0 o1) led h)
    (q : ∀ h' tk', St w g L (V28 o0 (some v)) led h' → (∀ b o, b ≠ L → h.get? b = some o → h'.get? b = some o) → U () (up s h' tk')) : wpAny M A (storeName (envX (S "defined_by") (fnS (stAt 14)) L 192 (.ref 191) []) (Str.ofString "head") v) U E (up s h tk) :=
  r_set SS (by rfl) q (by kernel_rfl) (by kernel_rfl)
theorem lo192_is_expr (SS : St w g L l led h) (q : Q (.ref 28) (up s h tk)) : wpAny M A (eval (.Name (Str.ofString "is_expr") pos) (envX (S "defined_by") (fnS (stAt 14)) L 192 (.ref 191) [])) Q E (up s h tk) :=
  r_glob (s := up s h tk) SS (g_is_expr _) q (by kernel_rfl) (by kernel_rfl) (by kernel_rfl)
theorem ca192_is_expr (SS : St w g L l led h)
    (he : starEach (e :: rest) (envX (S "defined_by") (fnS (stAt 14)) L 192 (.ref 191) []) = (false, eval e (envX (S "defined_by") (fnS (stAt 14)) L 192 (.ref 191) [])) :: starEach rest (envX (S "defined_by") (fnS (stAt 14)) L 192 (.ref 191) [])) (hplain : (backTo pos (starEach rest (envX (S "defined_by") (fnS (stAt 14)) L 192 (.ref 191) []))).any (·.1) = false)
    (q : wpAny (model PW w) A (spliced (backTo pos (starEach (e :: rest) (envX (S "defined_by") (fnS (stAt 14)) L 192 (.ref 191) [])))) (fun vs s₁ => (KK w.params).In s₁.heap ∧ wpAny (model PW w) A (call (.ref 28) vs) Q E s₁) E (up s h tk))
    (heq : eval (.Call (.Name (Str.ofString "is_expr") xp) (e :: rest) [] pos) (envX (S "defined_by") (fnS (stAt 14)) L 192 (.ref 191) []) = (do callWith pos (← eval (.Name (Str.ofString "is_expr") xp) (envX (S "defined_by") (fnS (stAt 14)) L 192 (.ref 191) [])) [] (backTo pos (starEach (e :: rest) (envX (S "defined_by") (fnS (stAt 14)) L 192 (.ref 191) []))) (backToKw pos (keywordEach [] (envX (S "defined_by") (fnS (stAt 14)) L 192 (.ref 191) []))))) :
    wpAny (model PW w) A (eval (.Call (.Name (Str.ofString "is_expr") xp) (e :: rest) [] pos) (envX (S "defined_by") (fnS (stAt 14)) L 192 (.ref 191) [])) Q E (up s h tk) :=
  r_call (s := up s h tk) SS (g_is_expr _) (kp28 _) (by kernel_rfl) (by kernel_rfl) (by kernel_rfl) he hplain q heq
theorem lo192_is_sym (SS : St w g L l led h) (q : Q (.ref 49) (up s h tk)) : wpAny M A (eval (.Name (Str.ofString "is_sym") pos) (envX (S "defined_by") (fnS (stAt 14)) L 192 (.ref 191) [])) Q E (up s h tk) :=
  r_glob (s := up s h tk) SS (g_is_sym _) q (by kernel_rfl) (by kernel_rfl) (by kernel_rfl)
theorem ca192_is_sym (SS : St w g L l led h)
    (he : starEach (e :: rest) (envX (S "defined_by") (fnS (stAt 14)) L 192 (.ref 191) []) = (false, eval e (envX (S "defined_by") (fnS (stAt 14)) L 192 (.ref 191) [])) :: starEach rest (envX (S "defined_by") (fnS (stAt 14)) L 192 (.ref 191) [])) (hplain : (backTo pos (starEach rest (envX (S "defined_by") (fnS (stAt 14)) L 192 (.ref 191) []))).any (·.1) = false)
    (q : wpAny (model PW w) A (spliced (backTo pos (starEach (e :: rest) (envX (S "defined_by") (fnS (stAt 14)) L 192 (.ref 191) [])))) (fun vs s₁ => (KK w.params).In s₁.heap ∧ wpAny (model PW w) A (call (.ref 49) vs) Q E s₁) E (up s h tk))
    (heq : eval (.Call (.Name (Str.ofString "is_sym") xp) (e :: rest) [] pos) (envX (S "defined_by") (fnS (stAt 14)) L 192 (.ref 191) []) = (do callWith pos (← eval (.Name (Str.ofString "is_sym") xp) (envX (S "defined_by") (fnS (stAt 14)) L 192 (.ref 191) [])) [] (backTo pos (starEach (e :: rest) (envX (S "defined_by") (fnS (stAt 14)) L 192 (.ref 191) []))) (backToKw pos (keywordEach [] (envX (S "defined_by") (fnS (stAt 14)) L 192 (.ref 191) []))))) :
    wpAny (model PW w) A (eval (.Call (.Name (Str.ofString "is_sym") xp) (e :: rest) [] pos) (envX (S "defined_by") (fnS (stAt 14)) L 192 (.ref 191) [])) Q E (up s h tk) :=
  r_call (s := up s h tk) SS (g_is_sym _) (kp49 _) (by kernel_rfl) (by kernel_rfl) (by kernel_rfl) he hplain q heq
theorem ml202 (v0 v1 : Value) : mp ([(S "some", v0), (S "names", v1)].reverse.map fun x => (x.1, some x.2)) = mp (V202 (some v0) (some v1) none) := mp_rev [(S "some", v0), (S "names", v1)] [S "name"] (by kernel_rfl)
theorem en202 {v0 v1 : Value} (R : Room (n + 1) A) (B : Bs w h₀) (k₀ : h₀.StaysIn s.heap) (W : Led) (hW : ∀ p ∈ W, Has s.heap p ∧ h₀.get? p.1 = none)
    (h : ∀ g L h₁ tk, St w g L (V202 (some v0) (some v1) none) W h₁ → h₀.StaysIn g → (∀ b o, b ∉ W.map (·.1) → s.heap.get? b = some o → g.get? b = some o) → (∀ b o, g.get? b = some o → s.heap.get? b = some o) →
      s.heap.StaysIn h₁ → Room n (A.deeper (envX (S "put_once") (fnS (stAt 19)) L 202 (.ref 201) [])) → wpAny (model PW w) (A.deeper (envX (S "put_once") (fnS (stAt 19)) L 202 (.ref 201) [])) (execs (fnB (stAt 19)) (envX (S "put_once") (fnS (stAt 19)) L 202 (.ref 201) []))
        (retK Q) NoE (up s h₁ tk)) :
    wpAny (model PW w) A (call (.ref 202) [v0, v1]) Q E s :=
  r_enter (binds := [(S "some", v0), (S "names", v1)]) (f202 _) (c202 _) R B k₀ W hW (BindsTo.of_eq (by rfl)) (locs (by rfl)) (by rfl) (by rfl) (by rfl) (by decide) fun g L h₁ tk SS => h g L h₁ tk (SS.congr (ml202 v0 v1))
theorem lo202_some (SS : St w g L (V202 (some v) o1 o2) led h) (q : Q v (up s h tk)) : wpAny M A (eval (.Name (Str.ofString "some") pos) (envX (S "put_once") (fnS (stAt 19)) L 202 (.ref 201) [])) Q E (up s h tk) :=
  r_loc (s := up s h tk) SS (by rfl) q (by kernel_rfl) (by kernel_rfl) (by kernel_rfl)
theorem so202_some (SS : St w g L (V202 o0 o1 o2) led h)
    (q : ∀ h' tk', St w g L (V202 (some v) o1 o2) led h' → (∀ b o, b ≠ L → h.get? b = some o → h'.get? b = some o) → U () (up s h' tk')) : wpAny M A (storeName (envX (S "put_once") (fnS (stAt 19)) L 202 (.ref 201) []) (Str.ofString "some") v) U E (up s h tk) :=
  r_set SS (by rfl) q (by kernel_rfl) (by kernel_rfl)
theorem lo202_names (SS : St w g L (V202 o0 (some v) o2) led h) (q : Q v (up s h tk)) : wpAny M A (eval (.Name (Str.ofString "names") pos) (envX (S "put_once") (fnS (stAt 19)) L 202 (.ref 201) [])) Q E (up s h tk) :=
  r_loc (s := up s h tk) SS (by rfl) q (by kernel_rfl) (by kernel_rfl) (by kernel_rfl)
theorem so202_names (SS : St w g L (V202 o0 o1 o2) led h)
    (q : ∀ h' tk', St w g L (V202 o0 (some v) o2) led h' → (∀ b o, b ≠ L → h.get? b = some o → h'.get? b = some o) → U () (up s h' tk')) : wpAny M A (storeName (envX (S "put_once") (fnS (stAt 19)) L 202 (.ref 201) []) (Str.ofString "names") v) U E (up s h tk) :=
  r_set SS (by rfl) q (by kernel_rfl) (by kernel_rfl)
theorem lo202_name (SS : St w g L (V202 o0 o1 (some v)) led h) (q : Q v (up s h tk)) : wpAny M A (eval (.Name (Str.ofString "name") pos) (envX (S "put_once") (fnS (stAt 19)) L 202 (.ref 201) [])) Q E (up s h tk) :=
  r_loc (s := up s h tk) SS (by rfl) q (by kernel_rfl) (by kernel_rfl) (by kernel_rfl)
theorem so202_name (SS : St w g L (V202 o0 o1 o2) led h)
    (q : ∀ h' tk', St w g L (V202 o0 o1 (some v)) led h' → (∀ b o, b ≠ L → h.get? b = some o → h'.get? b = some o) → U () (up s h' tk')) : wpAny M A (storeName (envX (S "put_once") (fnS (stAt 19)) L 202 (.ref 201) []) (Str.ofString "name") v) U E (up s h tk) :=
  r_set SS (by rfl) q (by kernel_rfl) (by kernel_rfl)
theorem ml209 (v0 : Value) : mp ([(S "place", v0)].reverse.map fun x => (x.1, some x.2)) = mp (V209 (some v0) none none none none) := mp_rev [(S "place", v0)] [S "head", S "parts", S "found", S "part"] (by kernel_rfl)
theorem en209 {v0 : Value} (R : Room (n + 1) A) (B : Bs w h₀) (k₀ : h₀.StaysIn s.heap) (W : Led) (hW : ∀ p ∈ W, Has s.heap p ∧ h₀.get? p.1 = none)
    (h : ∀ g L h₁ tk, St w g L (V209 (some v0) none none none none) W h₁ → h₀.StaysIn g → (∀ b o, b ∉ W.map (·.1) → s.heap.get? b = some o → g.get? b = some o) → (∀ b o, g.get? b = some o → s.heap.get? b = some o) →
      s.heap.StaysIn h₁ → Room n (A.deeper (envX (S "place_names") (fnS (stAt 20)) L 209 (.ref 208) [])) → wpAny (model PW w) (A.deeper (envX (S "place_names") (fnS (stAt 20)) L 209 (.ref 208) [])) (execs (fnB (stAt 20)) (envX (S "place_names") (fnS (stAt 20)) L 209 (.ref 208) []))
        (retK Q) NoE (up s h₁ tk)) :
    wpAny (model PW w) A (call (.ref 209) [v0]) Q E s :=
  r_enter (binds := [(S "place", v0)]) (f209 _) (c209 _) R B k₀ W hW (BindsTo.of_eq (by rfl)) (locs (by rfl)) (by rfl) (by rfl) (by rfl) (by decide) fun g L h₁ tk SS => h g L h₁ tk (SS.congr (ml209 v0))
theorem lo209_place (SS : St w g L (V209 (some v) o1 o2 o3 o4) led h) (q : Q v (up s h tk)) : wpAny M A (eval (.Name (Str.ofString "place") pos) (envX (S "place_names") (fnS (stAt 20)) L 209 (.ref 208) [])) Q E (up s h tk) :=
  r_loc (s := up s h tk) SS (by rfl) q (by kernel_rfl) (by kernel_rfl) (by kernel_rfl)
theorem so209_place (SS : St w g L (V209 o0 o1 o2 o3 o4) led h)
    (q : ∀ h' tk', St w g L (V209 (some v) o1 o2 o3 o4) led h' → (∀ b o, b ≠ L → h.get? b = some o → h'.get? b = some o) → U () (up s h' tk')) : wpAny M A (storeName (envX (S "place_names") (fnS (stAt 20)) L 209 (.ref 208) []) (Str.ofString "place") v) U E (up s h tk) :=
  r_set SS (by rfl) q (by kernel_rfl) (by kernel_rfl)
theorem lo209_head (SS : St w g L (V209 o0 (some v) o2 o3 o4) led h) (q : Q v (up s h tk)) : wpAny M A (eval (.Name (Str.ofString "head") pos) (envX (S "place_names") (fnS (stAt 20)) L 209 (.ref 208) [])) Q E (up s h tk) :=
  r_loc (s := up s h tk) SS (by rfl) q (by kernel_rfl) (by kernel_rfl) (by kernel_rfl)
theorem so209_head (SS : St w g L (V209 o0 o1 o2 o3 o4) led h)
    (q : ∀ h' tk', St w g L (V209 o0 (some v) o2 o3 o4) led h' → (∀ b o, b ≠ L → h.get? b = some o → h'.get? b = some o) → U () (up s h' tk')) : wpAny M A (storeName (envX (S "place_names") (fnS (stAt 20)) L 209 (.ref 208) []) (Str.ofString "head") v) U E (up s h tk) :=
  r_set SS (by rfl) q (by kernel_rfl) (by kernel_rfl)
theorem lo209_parts (SS : St w g L (V209 o0 o1 (some v) o3 o4) led h) (q : Q v (up s h tk)) : wpAny M A (eval (.Name (Str.ofString "parts") pos) (envX (S "place_names") (fnS (stAt 20)) L 209 (.ref 208) [])) Q E (up s h tk) :=
  r_loc (s := up s h tk) SS (by rfl) q (by kernel_rfl) (by kernel_rfl) (by kernel_rfl)
theorem so209_parts (SS : St w g L (V209 o0 o1 o2 o3 o4) led h)
    (q : ∀ h' tk', St w g L (V209 o0 o1 (some v) o3 o4) led h' → (∀ b o, b ≠ L → h.get? b = some o → h'.get? b = some o) → U () (up s h' tk')) : wpAny M A (storeName (envX (S "place_names") (fnS (stAt 20)) L 209 (.ref 208) []) (Str.ofString "parts") v) U E (up s h tk) :=
  r_set SS (by rfl) q (by kernel_rfl) (by kernel_rfl)
theorem lo209_found (SS : St w g L (V209 o0 o1 o2 (some v) o4) led h) (q : Q v (up s h tk)) : wpAny M A (eval (.Name (Str.ofString "found") pos) (envX (S "place_names") (fnS (stAt 20)) L 209 (.ref 208) [])) Q E (up s h tk) :=
  r_loc (s := up s h tk) SS (by rfl) q (by kernel_rfl) (by kernel_rfl) (by kernel_rfl)
theorem so209_found (SS : St w g L (V209 o0 o1 o2 o3 o4) led h)
    (q : ∀ h' tk', St w g L (V209 o0 o1 o2 (some v) o4) led h' → (∀ b o, b ≠ L → h.get? b = some o → h'.get? b = some o) → U () (up s h' tk')) : wpAny M A (storeName (envX (S "place_names") (fnS (stAt 20)) L 209 (.ref 208) []) (Str.ofString "found") v) U E (up s h tk) :=
  r_set SS (by rfl) q (by kernel_rfl) (by kernel_rfl)
theorem lo209_part (SS : St w g L (V209 o0 o1 o2 o3 (some v)) led h) (q : Q v (up s h tk)) : wpAny M A (eval (.Name (Str.ofString "part") pos) (envX (S "place_names") (fnS (stAt 20)) L 209 (.ref 208) [])) Q E (up s h tk) :=
  r_loc (s := up s h tk) SS (by rfl) q (by kernel_rfl) (by kernel_rfl) (by kernel_rfl)
theorem so209_part (SS : St w g L (V209 o0 o1 o2 o3 o4) led h)
    (q : ∀ h' tk', St w g L (V209 o0 o1 o2 o3 (some v)) led h' → (∀ b o, b ≠ L → h.get? b = some o → h'.get? b = some o) → U () (up s h' tk')) : wpAny M A (storeName (envX (S "place_names") (fnS (stAt 20)) L 209 (.ref 208) []) (Str.ofString "part") v) U E (up s h tk) :=
  r_set SS (by rfl) q (by kernel_rfl) (by kernel_rfl)
theorem lo209_is_sym (SS : St w g L l led h) (q : Q (.ref 49) (up s h tk)) : wpAny M A (eval (.Name (Str.ofString "is_sym") pos) (envX (S "place_names") (fnS (stAt 20)) L 209 (.ref 208) [])) Q E (up s h tk) :=
  r_glob (s := up s h tk) SS (g_is_sym _) q (by kernel_rfl) (by kernel_rfl) (by kernel_rfl)
theorem ca209_is_sym (SS : St w g L l led h)
    (he : starEach (e :: rest) (envX (S "place_names") (fnS (stAt 20)) L 209 (.ref 208) []) = (false, eval e (envX (S "place_names") (fnS (stAt 20)) L 209 (.ref 208) [])) :: starEach rest (envX (S "place_names") (fnS (stAt 20)) L 209 (.ref 208) [])) (hplain : (backTo pos (starEach rest (envX (S "place_names") (fnS (stAt 20)) L 209 (.ref 208) []))).any (·.1) = false)
    (q : wpAny (model PW w) A (spliced (backTo pos (starEach (e :: rest) (envX (S "place_names") (fnS (stAt 20)) L 209 (.ref 208) [])))) (fun vs s₁ => (KK w.params).In s₁.heap ∧ wpAny (model PW w) A (call (.ref 49) vs) Q E s₁) E (up s h tk))
    (heq : eval (.Call (.Name (Str.ofString "is_sym") xp) (e :: rest) [] pos) (envX (S "place_names") (fnS (stAt 20)) L 209 (.ref 208) []) = (do callWith pos (← eval (.Name (Str.ofString "is_sym") xp) (envX (S "place_names") (fnS (stAt 20)) L 209 (.ref 208) [])) [] (backTo pos (starEach (e :: rest) (envX (S "place_names") (fnS (stAt 20)) L 209 (.ref 208) []))) (backToKw pos (keywordEach [] (envX (S "place_names") (fnS (stAt 20)) L 209 (.ref 208) []))))) :
    wpAny (model PW w) A (eval (.Call (.Name (Str.ofString "is_sym") xp) (e :: rest) [] pos) (envX (S "place_names") (fnS (stAt 20)) L 209 (.ref 208) [])) Q E (up s h tk) :=
  r_call (s := up s h tk) SS (g_is_sym _) (kp49 _) (by kernel_rfl) (by kernel_rfl) (by kernel_rfl) he hplain q heq
theorem lo209_head_of (SS : St w g L l led h) (q : Q (.ref 35) (up s h tk)) : wpAny M A (eval (.Name (Str.ofString "head_of") pos) (envX (S "place_names") (fnS (stAt 20)) L 209 (.ref 208) [])) Q E (up s h tk) :=
  r_glob (s := up s h tk) SS (g_head_of _) q (by kernel_rfl) (by kernel_rfl) (by kernel_rfl)
theorem ca209_head_of (SS : St w g L l led h)
    (he : starEach (e :: rest) (envX (S "place_names") (fnS (stAt 20)) L 209 (.ref 208) []) = (false, eval e (envX (S "place_names") (fnS (stAt 20)) L 209 (.ref 208) [])) :: starEach rest (envX (S "place_names") (fnS (stAt 20)) L 209 (.ref 208) [])) (hplain : (backTo pos (starEach rest (envX (S "place_names") (fnS (stAt 20)) L 209 (.ref 208) []))).any (·.1) = false)
    (q : wpAny (model PW w) A (spliced (backTo pos (starEach (e :: rest) (envX (S "place_names") (fnS (stAt 20)) L 209 (.ref 208) [])))) (fun vs s₁ => (KK w.params).In s₁.heap ∧ wpAny (model PW w) A (call (.ref 35) vs) Q E s₁) E (up s h tk))
    (heq : eval (.Call (.Name (Str.ofString "head_of") xp) (e :: rest) [] pos) (envX (S "place_names") (fnS (stAt 20)) L 209 (.ref 208) []) = (do callWith pos (← eval (.Name (Str.ofString "head_of") xp) (envX (S "place_names") (fnS (stAt 20)) L 209 (.ref 208) [])) [] (backTo pos (starEach (e :: rest) (envX (S "place_names") (fnS (stAt 20)) L 209 (.ref 208) []))) (backToKw pos (keywordEach [] (envX (S "place_names") (fnS (stAt 20)) L 209 (.ref 208) []))))) :
    wpAny (model PW w) A (eval (.Call (.Name (Str.ofString "head_of") xp) (e :: rest) [] pos) (envX (S "place_names") (fnS (stAt 20)) L 209 (.ref 208) [])) Q E (up s h tk) :=
  r_call (s := up s h tk) SS (g_head_of _) (kp35 _) (by kernel_rfl) (by kernel_rfl) (by kernel_rfl) he hplain q heq
theorem lo209_parts_of (SS : St w g L l led h) (q : Q (.ref 42) (up s h tk)) : wpAny M A (eval (.Name (Str.ofString "parts_of") pos) (envX (S "place_names") (fnS (stAt 20)) L 209 (.ref 208) [])) Q E (up s h tk) :=
  r_glob (s := up s h tk) SS (g_parts_of _) q (by kernel_rfl) (by kernel_rfl) (by kernel_rfl)
theorem ca209_parts_of (SS : St w g L l led h)
    (he : starEach (e :: rest) (envX (S "place_names") (fnS (stAt 20)) L 209 (.ref 208) []) = (false, eval e (envX (S "place_names") (fnS (stAt 20)) L 209 (.ref 208) [])) :: starEach rest (envX (S "place_names") (fnS (stAt 20)) L 209 (.ref 208) [])) (hplain : (backTo pos (starEach rest (envX (S "place_names") (fnS (stAt 20)) L 209 (.ref 208) []))).any (·.1) = false)
    (q : wpAny (model PW w) A (spliced (backTo pos (starEach (e :: rest) (envX (S "place_names") (fnS (stAt 20)) L 209 (.ref 208) [])))) (fun vs s₁ => (KK w.params).In s₁.heap ∧ wpAny (model PW w) A (call (.ref 42) vs) Q E s₁) E (up s h tk))
    (heq : eval (.Call (.Name (Str.ofString "parts_of") xp) (e :: rest) [] pos) (envX (S "place_names") (fnS (stAt 20)) L 209 (.ref 208) []) = (do callWith pos (← eval (.Name (Str.ofString "parts_of") xp) (envX (S "place_names") (fnS (stAt 20)) L 209 (.ref 208) [])) [] (backTo pos (starEach (e :: rest) (envX (S "place_names") (fnS (stAt 20)) L 209 (.ref 208) []))) (backToKw pos (keywordEach [] (envX (S "place_names") (fnS (stAt 20)) L 209 (.ref 208) []))))) :
    wpAny (model PW w) A (eval (.Call (.Name (Str.ofString "parts_of") xp) (e :: rest) [] pos) (envX (S "place_names") (fnS (stAt 20)) L 209 (.ref 208) [])) Q E (up s h tk) :=
  r_call (s := up s h tk) SS (g_parts_of _) (kp42 _) (by kernel_rfl) (by kernel_rfl) (by kernel_rfl) he hplain q heq
theorem lo209_len (SS : St w g L l led h) (q : Q (.builtin "len") (up s h tk)) : wpAny M A (eval (.Name (Str.ofString "len") pos) (envX (S "place_names") (fnS (stAt 20)) L 209 (.ref 208) [])) Q E (up s h tk) :=
  r_blt (s := up s h tk) SS (b_len _) (by kernel_rfl) (by decide) q (by kernel_rfl) (by kernel_rfl) (by kernel_rfl)
theorem lo209_place_names (SS : St w g L l led h) (q : Q (.ref 209) (up s h tk)) : wpAny M A (eval (.Name (Str.ofString "place_names") pos) (envX (S "place_names") (fnS (stAt 20)) L 209 (.ref 208) [])) Q E (up s h tk) :=
  r_glob (s := up s h tk) SS (g_place_names _) q (by kernel_rfl) (by kernel_rfl) (by kernel_rfl)
theorem ca209_place_names (SS : St w g L l led h)
    (he : starEach (e :: rest) (envX (S "place_names") (fnS (stAt 20)) L 209 (.ref 208) []) = (false, eval e (envX (S "place_names") (fnS (stAt 20)) L 209 (.ref 208) [])) :: starEach rest (envX (S "place_names") (fnS (stAt 20)) L 209 (.ref 208) [])) (hplain : (backTo pos (starEach rest (envX (S "place_names") (fnS (stAt 20)) L 209 (.ref 208) []))).any (·.1) = false)
    (q : wpAny (model PW w) A (spliced (backTo pos (starEach (e :: rest) (envX (S "place_names") (fnS (stAt 20)) L 209 (.ref 208) [])))) (fun vs s₁ => (KK w.params).In s₁.heap ∧ wpAny (model PW w) A (call (.ref 209) vs) Q E s₁) E (up s h tk))
    (heq : eval (.Call (.Name (Str.ofString "place_names") xp) (e :: rest) [] pos) (envX (S "place_names") (fnS (stAt 20)) L 209 (.ref 208) []) = (do callWith pos (← eval (.Name (Str.ofString "place_names") xp) (envX (S "place_names") (fnS (stAt 20)) L 209 (.ref 208) [])) [] (backTo pos (starEach (e :: rest) (envX (S "place_names") (fnS (stAt 20)) L 209 (.ref 208) []))) (backToKw pos (keywordEach [] (envX (S "place_names") (fnS (stAt 20)) L 209 (.ref 208) []))))) :
    wpAny (model PW w) A (eval (.Call (.Name (Str.ofString "place_names") xp) (e :: rest) [] pos) (envX (S "place_names") (fnS (stAt 20)) L 209 (.ref 208) [])) Q E (up s h tk) :=
  r_call (s := up s h tk) SS (g_place_names _) (kp209 _) (by kernel_rfl) (by kernel_rfl) (by kernel_rfl) he hplain q heq
theorem lo209_put_once (SS : St w g L l led h) (q : Q (.ref 202) (up s h tk)) : wpAny M A (eval (.Name (Str.ofString "put_once") pos) (envX (S "place_names") (fnS (stAt 20)) L 209 (.ref 208) [])) Q E (up s h tk) :=
  r_glob (s := up s h tk) SS (g_put_once _) q (by kernel_rfl) (by kernel_rfl) (by kernel_rfl)
theorem ca209_put_once (SS : St w g L l led h)
    (he : starEach (e :: rest) (envX (S "place_names") (fnS (stAt 20)) L 209 (.ref 208) []) = (false, eval e (envX (S "place_names") (fnS (stAt 20)) L 209 (.ref 208) [])) :: starEach rest (envX (S "place_names") (fnS (stAt 20)) L 209 (.ref 208) [])) (hplain : (backTo pos (starEach rest (envX (S "place_names") (fnS (stAt 20)) L 209 (.ref 208) []))).any (·.1) = false)
    (q : wpAny (model PW w) A (spliced (backTo pos (starEach (e :: rest) (envX (S "place_names") (fnS (stAt 20)) L 209 (.ref 208) [])))) (fun vs s₁ => (KK w.params).In s₁.heap ∧ wpAny (model PW w) A (call (.ref 202) vs) Q E s₁) E (up s h tk))
    (heq : eval (.Call (.Name (Str.ofString "put_once") xp) (e :: rest) [] pos) (envX (S "place_names") (fnS (stAt 20)) L 209 (.ref 208) []) = (do callWith pos (← eval (.Name (Str.ofString "put_once") xp) (envX (S "place_names") (fnS (stAt 20)) L 209 (.ref 208) [])) [] (backTo pos (starEach (e :: rest) (envX (S "place_names") (fnS (stAt 20)) L 209 (.ref 208) []))) (backToKw pos (keywordEach [] (envX (S "place_names") (fnS (stAt 20)) L 209 (.ref 208) []))))) :
    wpAny (model PW w) A (eval (.Call (.Name (Str.ofString "put_once") xp) (e :: rest) [] pos) (envX (S "place_names") (fnS (stAt 20)) L 209 (.ref 208) [])) Q E (up s h tk) :=
  r_call (s := up s h tk) SS (g_put_once _) (kp202 _) (by kernel_rfl) (by kernel_rfl) (by kernel_rfl) he hplain q heq
theorem ml216 (v0 : Value) : mp ([(S "tree", v0)].reverse.map fun x => (x.1, some x.2)) = mp (V28 (some v0) none) := mp_rev [(S "tree", v0)] [S "head"] (by kernel_rfl)
theorem en216 {v0 : Value} (R : Room (n + 1) A) (B : Bs w h₀) (k₀ : h₀.StaysIn s.heap) (W : Led) (hW : ∀ p ∈ W, Has s.heap p ∧ h₀.get? p.1 = none)
    (h : ∀ g L h₁ tk, St w g L (V28 (some v0) none) W h₁ → h₀.StaysIn g → (∀ b o, b ∉ W.map (·.1) → s.heap.get? b = some o → g.get? b = some o) → (∀ b o, g.get? b = some o → s.heap.get? b = some o) →
      s.heap.StaysIn h₁ → Room n (A.deeper (envX (S "function_head") (fnS (stAt 21)) L 216 (.ref 215) [])) → wpAny (model PW w) (A.deeper (envX (S "function_head") (fnS (stAt 21)) L 216 (.ref 215) [])) (execs (fnB (stAt 21)) (envX (S "function_head") (fnS (stAt 21)) L 216 (.ref 215) []))
        (retK Q) NoE (up s h₁ tk)) :
    wpAny (model PW w) A (call (.ref 216) [v0]) Q E s :=
  r_enter (binds := [(S "tree", v0)]) (f216 _) (c216 _) R B k₀ W hW (BindsTo.of_eq (by rfl)) (locs (by rfl)) (by rfl) (by rfl) (by rfl) (by decide) fun g L h₁ tk SS => h g L h₁ tk (SS.congr (ml216 v0))
theorem lo216_tree (SS : St w g L (V28 (some v) o1) led h) (q : Q v (up s h tk)) : wpAny M A (eval (.Name (Str.ofString "tree") pos) (envX (S "function_head") (fnS (stAt 21)) L 216 (.ref 215) [])) Q E (up s h tk) :=
  r_loc (s := up s h tk) SS (by rfl) q (by kernel_rfl) (by kernel_rfl) (by kernel_rfl)
theorem so216_tree (SS : St w g L (V28 o0 o1) led h)
    (q : ∀ h' tk', St w g L (V28 (some v) o1) led h' → (∀ b o, b ≠ L → h.get? b = some o → h'.get? b = some o) → U () (up s h' tk')) : wpAny M A (storeName (envX (S "function_head") (fnS (stAt 21)) L 216 (.ref 215) []) (Str.ofString "tree") v) U E (up s h tk) :=
  r_set SS (by rfl) q (by kernel_rfl) (by kernel_rfl)
theorem lo216_head (SS : St w g L (V28 o0 (some v)) led h) (q : Q v (up s h tk)) : wpAny M A (eval (.Name (Str.ofString "head") pos) (envX (S "function_head") (fnS (stAt 21)) L 216 (.ref 215) [])) Q E (up s h tk) :=
  r_loc (s := up s h tk) SS (by rfl) q (by kernel_rfl) (by kernel_rfl) (by kernel_rfl)
theorem so216_head (SS : St w g L (V28 o0 o1) led h)
    (q : ∀ h' tk', St w g L (V28 o0 (some v)) led h' → (∀ b o, b ≠ L → h.get? b = some o → h'.get? b = some o) → U () (up s h' tk')) : wpAny M A (storeName (envX (S "function_head") (fnS (stAt 21)) L 216 (.ref 215) []) (Str.ofString "head") v) U E (up s h tk) :=
  r_set SS (by rfl) q (by kernel_rfl) (by kernel_rfl)
theorem lo216_is_expr (SS : St w g L l led h) (q : Q (.ref 28) (up s h tk)) : wpAny M A (eval (.Name (Str.ofString "is_expr") pos) (envX (S "function_head") (fnS (stAt 21)) L 216 (.ref 215) [])) Q E (up s h tk) :=
  r_glob (s := up s h tk) SS (g_is_expr _) q (by kernel_rfl) (by kernel_rfl) (by kernel_rfl)
theorem ca216_is_expr (SS : St w g L l led h)
    (he : starEach (e :: rest) (envX (S "function_head") (fnS (stAt 21)) L 216 (.ref 215) []) = (false, eval e (envX (S "function_head") (fnS (stAt 21)) L 216 (.ref 215) [])) :: starEach rest (envX (S "function_head") (fnS (stAt 21)) L 216 (.ref 215) [])) (hplain : (backTo pos (starEach rest (envX (S "function_head") (fnS (stAt 21)) L 216 (.ref 215) []))).any (·.1) = false)
    (q : wpAny (model PW w) A (spliced (backTo pos (starEach (e :: rest) (envX (S "function_head") (fnS (stAt 21)) L 216 (.ref 215) [])))) (fun vs s₁ => (KK w.params).In s₁.heap ∧ wpAny (model PW w) A (call (.ref 28) vs) Q E s₁) E (up s h tk))
    (heq : eval (.Call (.Name (Str.ofString "is_expr") xp) (e :: rest) [] pos) (envX (S "function_head") (fnS (stAt 21)) L 216 (.ref 215) []) = (do callWith pos (← eval (.Name (Str.ofString "is_expr") xp) (envX (S "function_head") (fnS (stAt 21)) L 216 (.ref 215) [])) [] (backTo pos (starEach (e :: rest) (envX (S "function_head") (fnS (stAt 21)) L 216 (.ref 215) []))) (backToKw pos (keywordEach [] (envX (S "function_head") (fnS (stAt 21)) L 216 (.ref 215) []))))) :
    wpAny (model PW w) A (eval (.Call (.Name (Str.ofString "is_expr") xp) (e :: rest) [] pos) (envX (S "function_head") (fnS (stAt 21)) L 216 (.ref 215) [])) Q E (up s h tk) :=
  r_call (s := up s h tk) SS (g_is_expr _) (kp28 _) (by kernel_rfl) (by kernel_rfl) (by kernel_rfl) he hplain q heq
theorem lo216_head_of (SS : St w g L l led h) (q : Q (.ref 35) (up s h tk)) : wpAny M A (eval (.Name (Str.ofString "head_of") pos) (envX (S "function_head") (fnS (stAt 21)) L 216 (.ref 215) [])) Q E (up s h tk) :=
  r_glob (s := up s h tk) SS (g_head_of _) q (by kernel_rfl) (by kernel_rfl) (by kernel_rfl)
theorem ca216_head_of (SS : St w g L l led h)
    (he : starEach (e :: rest) (envX (S "function_head") (fnS (stAt 21)) L 216 (.ref 215) []) = (false, eval e (envX (S "function_head") (fnS (stAt 21)) L 216 (.ref 215) [])) :: starEach rest (envX (S "function_head") (fnS (stAt 21)) L 216 (.ref 215) [])) (hplain : (backTo pos (starEach rest (envX (S "function_head") (fnS (stAt 21)) L 216 (.ref 215) []))).any (·.1) = false)
    (q : wpAny (model PW w) A (spliced (backTo pos (starEach (e :: rest) (envX (S "function_head") (fnS (stAt 21)) L 216 (.ref 215) [])))) (fun vs s₁ => (KK w.params).In s₁.heap ∧ wpAny (model PW w) A (call (.ref 35) vs) Q E s₁) E (up s h tk))
    (heq : eval (.Call (.Name (Str.ofString "head_of") xp) (e :: rest) [] pos) (envX (S "function_head") (fnS (stAt 21)) L 216 (.ref 215) []) = (do callWith pos (← eval (.Name (Str.ofString "head_of") xp) (envX (S "function_head") (fnS (stAt 21)) L 216 (.ref 215) [])) [] (backTo pos (starEach (e :: rest) (envX (S "function_head") (fnS (stAt 21)) L 216 (.ref 215) []))) (backToKw pos (keywordEach [] (envX (S "function_head") (fnS (stAt 21)) L 216 (.ref 215) []))))) :
    wpAny (model PW w) A (eval (.Call (.Name (Str.ofString "head_of") xp) (e :: rest) [] pos) (envX (S "function_head") (fnS (stAt 21)) L 216 (.ref 215) [])) Q E (up s h tk) :=
  r_call (s := up s h tk) SS (g_head_of _) (kp35 _) (by kernel_rfl) (by kernel_rfl) (by kernel_rfl) he hplain q heq
theorem ml223 (v0 : Value) : mp ([(S "tree", v0)].reverse.map fun x => (x.1, some x.2)) = mp (V28 (some v0) none) := mp_rev [(S "tree", v0)] [S "head"] (by kernel_rfl)
theorem en223 {v0 : Value} (R : Room (n + 1) A) (B : Bs w h₀) (k₀ : h₀.StaysIn s.heap) (W : Led) (hW : ∀ p ∈ W, Has s.heap p ∧ h₀.get? p.1 = none)
    (h : ∀ g L h₁ tk, St w g L (V28 (some v0) none) W h₁ → h₀.StaysIn g → (∀ b o, b ∉ W.map (·.1) → s.heap.get? b = some o → g.get? b = some o) → (∀ b o, g.get? b = some o → s.heap.get? b = some o) →
      s.heap.StaysIn h₁ → Room n (A.deeper (envX (S "own_name") (fnS (stAt 22)) L 223 (.ref 222) [])) → wpAny (model PW w) (A.deeper (envX (S "own_name") (fnS (stAt 22)) L 223 (.ref 222) [])) (execs (fnB (stAt 22)) (envX (S "own_name") (fnS (stAt 22)) L 223 (.ref 222) []))
        (retK Q) NoE (up s h₁ tk)) :
    wpAny (model PW w) A (call (.ref 223) [v0]) Q E s :=
  r_enter (binds := [(S "tree", v0)]) (f223 _) (c223 _) R B k₀ W hW (BindsTo.of_eq (by rfl)) (locs (by rfl)) (by rfl) (by rfl) (by rfl) (by decide) fun g L h₁ tk SS => h g L h₁ tk (SS.congr (ml223 v0))
theorem lo223_tree (SS : St w g L (V28 (some v) o1) led h) (q : Q v (up s h tk)) : wpAny M A (eval (.Name (Str.ofString "tree") pos) (envX (S "own_name") (fnS (stAt 22)) L 223 (.ref 222) [])) Q E (up s h tk) :=
  r_loc (s := up s h tk) SS (by rfl) q (by kernel_rfl) (by kernel_rfl) (by kernel_rfl)
theorem so223_tree (SS : St w g L (V28 o0 o1) led h)
    (q : ∀ h' tk', St w g L (V28 (some v) o1) led h' → (∀ b o, b ≠ L → h.get? b = some o → h'.get? b = some o) → U () (up s h' tk')) : wpAny M A (storeName (envX (S "own_name") (fnS (stAt 22)) L 223 (.ref 222) []) (Str.ofString "tree") v) U E (up s h tk) :=
  r_set SS (by rfl) q (by kernel_rfl) (by kernel_rfl)
theorem lo223_head (SS : St w g L (V28 o0 (some v)) led h) (q : Q v (up s h tk)) : wpAny M A (eval (.Name (Str.ofString "head") pos) (envX (S "own_name") (fnS (stAt 22)) L 223 (.ref 222) [])) Q E (up s h tk) :=
  r_loc (s := up s h tk) SS (by rfl) q (by kernel_rfl) (by kernel_rfl) (by kernel_rfl)
theorem so223_head (SS : St w g L (V28 o0 o1) led h)
    (q : ∀ h' tk', St w g L (V28 o0 (some v)) led h' → (∀ b o, b ≠ L → h.get? b = some o → h'.get? b = some o) → U () (up s h' tk')) : wpAny M A (storeName (envX (S "own_name") (fnS (stAt 22)) L 223 (.ref 222) []) (Str.ofString "head") v) U E (up s h tk) :=
  r_set SS (by rfl) q (by kernel_rfl) (by kernel_rfl)
theorem lo223_function_head (SS : St w g L l led h) (q : Q (.ref 216) (up s h tk)) : wpAny M A (eval (.Name (Str.ofString "function_head") pos) (envX (S "own_name") (fnS (stAt 22)) L 223 (.ref 222) [])) Q E (up s h tk) :=
  r_glob (s := up s h tk) SS (g_function_head _) q (by kernel_rfl) (by kernel_rfl) (by kernel_rfl)
theorem ca223_function_head (SS : St w g L l led h)
    (he : starEach (e :: rest) (envX (S "own_name") (fnS (stAt 22)) L 223 (.ref 222) []) = (false, eval e (envX (S "own_name") (fnS (stAt 22)) L 223 (.ref 222) [])) :: starEach rest (envX (S "own_name") (fnS (stAt 22)) L 223 (.ref 222) [])) (hplain : (backTo pos (starEach rest (envX (S "own_name") (fnS (stAt 22)) L 223 (.ref 222) []))).any (·.1) = false)
    (q : wpAny (model PW w) A (spliced (backTo pos (starEach (e :: rest) (envX (S "own_name") (fnS (stAt 22)) L 223 (.ref 222) [])))) (fun vs s₁ => (KK w.params).In s₁.heap ∧ wpAny (model PW w) A (call (.ref 216) vs) Q E s₁) E (up s h tk))
    (heq : eval (.Call (.Name (Str.ofString "function_head") xp) (e :: rest) [] pos) (envX (S "own_name") (fnS (stAt 22)) L 223 (.ref 222) []) = (do callWith pos (← eval (.Name (Str.ofString "function_head") xp) (envX (S "own_name") (fnS (stAt 22)) L 223 (.ref 222) [])) [] (backTo pos (starEach (e :: rest) (envX (S "own_name") (fnS (stAt 22)) L 223 (.ref 222) []))) (backToKw pos (keywordEach [] (envX (S "own_name") (fnS (stAt 22)) L 223 (.ref 222) []))))) :
    wpAny (model PW w) A (eval (.Call (.Name (Str.ofString "function_head") xp) (e :: rest) [] pos) (envX (S "own_name") (fnS (stAt 22)) L 223 (.ref 222) [])) Q E (up s h tk) :=
  r_call (s := up s h tk) SS (g_function_head _) (kp216 _) (by kernel_rfl) (by kernel_rfl) (by kernel_rfl) he hplain q heq
theorem lo223_is_expr (SS : St w g L l led h) (q : Q (.ref 28) (up s h tk)) : wpAny M A (eval (.Name (Str.ofString "is_expr") pos) (envX (S "own_name") (fnS (stAt 22)) L 223 (.ref 222) [])) Q E (up s h tk) :=
  r_glob (s := up s h tk) SS (g_is_expr _) q (by kernel_rfl) (by kernel_rfl) (by kernel_rfl)
theorem ca223_is_expr (SS : St w g L l led h)
    (he : starEach (e :: rest) (envX (S "own_name") (fnS (stAt 22)) L 223 (.ref 222) []) = (false, eval e (envX (S "own_name") (fnS (stAt 22)) L 223 (.ref 222) [])) :: starEach rest (envX (S "own_name") (fnS (stAt 22)) L 223 (.ref 222) [])) (hplain : (backTo pos (starEach rest (envX (S "own_name") (fnS (stAt 22)) L 223 (.ref 222) []))).any (·.1) = false)
    (q : wpAny (model PW w) A (spliced (backTo pos (starEach (e :: rest) (envX (S "own_name") (fnS (stAt 22)) L 223 (.ref 222) [])))) (fun vs s₁ => (KK w.params).In s₁.heap ∧ wpAny (model PW w) A (call (.ref 28) vs) Q E s₁) E (up s h tk))
    (heq : eval (.Call (.Name (Str.ofString "is_expr") xp) (e :: rest) [] pos) (envX (S "own_name") (fnS (stAt 22)) L 223 (.ref 222) []) = (do callWith pos (← eval (.Name (Str.ofString "is_expr") xp) (envX (S "own_name") (fnS (stAt 22)) L 223 (.ref 222) [])) [] (backTo pos (starEach (e :: rest) (envX (S "own_name") (fnS (stAt 22)) L 223 (.ref 222) []))) (backToKw pos (keywordEach [] (envX (S "own_name") (fnS (stAt 22)) L 223 (.ref 222) []))))) :
    wpAny (model PW w) A (eval (.Call (.Name (Str.ofString "is_expr") xp) (e :: rest) [] pos) (envX (S "own_name") (fnS (stAt 22)) L 223 (.ref 222) [])) Q E (up s h tk) :=
  r_call (s := up s h tk) SS (g_is_expr _) (kp28 _) (by kernel_rfl) (by kernel_rfl) (by kernel_rfl) he hplain q heq
theorem lo223_is_sym (SS : St w g L l led h) (q : Q (.ref 49) (up s h tk)) : wpAny M A (eval (.Name (Str.ofString "is_sym") pos) (envX (S "own_name") (fnS (stAt 22)) L 223 (.ref 222) [])) Q E (up s h tk) :=
  r_glob (s := up s h tk) SS (g_is_sym _) q (by kernel_rfl) (by kernel_rfl) (by kernel_rfl)
theorem ca223_is_sym (SS : St w g L l led h)
    (he : starEach (e :: rest) (envX (S "own_name") (fnS (stAt 22)) L 223 (.ref 222) []) = (false, eval e (envX (S "own_name") (fnS (stAt 22)) L 223 (.ref 222) [])) :: starEach rest (envX (S "own_name") (fnS (stAt 22)) L 223 (.ref 222) [])) (hplain : (backTo pos (starEach rest (envX (S "own_name") (fnS (stAt 22)) L 223 (.ref 222) []))).any (·.1) = false)
    (q : wpAny (model PW w) A (spliced (backTo pos (starEach (e :: rest) (envX (S "own_name") (fnS (stAt 22)) L 223 (.ref 222) [])))) (fun vs s₁ => (KK w.params).In s₁.heap ∧ wpAny (model PW w) A (call (.ref 49) vs) Q E s₁) E (up s h tk))
    (heq : eval (.Call (.Name (Str.ofString "is_sym") xp) (e :: rest) [] pos) (envX (S "own_name") (fnS (stAt 22)) L 223 (.ref 222) []) = (do callWith pos (← eval (.Name (Str.ofString "is_sym") xp) (envX (S "own_name") (fnS (stAt 22)) L 223 (.ref 222) [])) [] (backTo pos (starEach (e :: rest) (envX (S "own_name") (fnS (stAt 22)) L 223 (.ref 222) []))) (backToKw pos (keywordEach [] (envX (S "own_name") (fnS (stAt 22)) L 223 (.ref 222) []))))) :
    wpAny (model PW w) A (eval (.Call (.Name (Str.ofString "is_sym") xp) (e :: rest) [] pos) (envX (S "own_name") (fnS (stAt 22)) L 223 (.ref 222) [])) Q E (up s h tk) :=
  r_call (s := up s h tk) SS (g_is_sym _) (kp49 _) (by kernel_rfl) (by kernel_rfl) (by kernel_rfl) he hplain q heq
theorem ml230 (v0 : Value) : mp ([(S "tree", v0)].reverse.map fun x => (x.1, some x.2)) = mp (V178 (some v0) none none) := mp_rev [(S "tree", v0)] [S "head", S "parts"] (by kernel_rfl)
theorem en230 {v0 : Value} (R : Room (n + 1) A) (B : Bs w h₀) (k₀ : h₀.StaysIn s.heap) (W : Led) (hW : ∀ p ∈ W, Has s.heap p ∧ h₀.get? p.1 = none)
    (h : ∀ g L h₁ tk, St w g L (V178 (some v0) none none) W h₁ → h₀.StaysIn g → (∀ b o, b ∉ W.map (·.1) → s.heap.get? b = some o → g.get? b = some o) → (∀ b o, g.get? b = some o → s.heap.get? b = some o) →
      s.heap.StaysIn h₁ → Room n (A.deeper (envX (S "parts_in_scope") (fnS (stAt 23)) L 230 (.ref 229) [])) → wpAny (model PW w) (A.deeper (envX (S "parts_in_scope") (fnS (stAt 23)) L 230 (.ref 229) [])) (execs (fnB (stAt 23)) (envX (S "parts_in_scope") (fnS (stAt 23)) L 230 (.ref 229) []))
        (retK Q) NoE (up s h₁ tk)) :
    wpAny (model PW w) A (call (.ref 230) [v0]) Q E s :=
  r_enter (binds := [(S "tree", v0)]) (f230 _) (c230 _) R B k₀ W hW (BindsTo.of_eq (by rfl)) (locs (by rfl)) (by rfl) (by rfl) (by rfl) (by decide) fun g L h₁ tk SS => h g L h₁ tk (SS.congr (ml230 v0))
theorem lo230_tree (SS : St w g L (V178 (some v) o1 o2) led h) (q : Q v (up s h tk)) : wpAny M A (eval (.Name (Str.ofString "tree") pos) (envX (S "parts_in_scope") (fnS (stAt 23)) L 230 (.ref 229) [])) Q E (up s h tk) :=
  r_loc (s := up s h tk) SS (by rfl) q (by kernel_rfl) (by kernel_rfl) (by kernel_rfl)
theorem so230_tree (SS : St w g L (V178 o0 o1 o2) led h)
    (q : ∀ h' tk', St w g L (V178 (some v) o1 o2) led h' → (∀ b o, b ≠ L → h.get? b = some o → h'.get? b = some o) → U () (up s h' tk')) : wpAny M A (storeName (envX (S "parts_in_scope") (fnS (stAt 23)) L 230 (.ref 229) []) (Str.ofString "tree") v) U E (up s h tk) :=
  r_set SS (by rfl) q (by kernel_rfl) (by kernel_rfl)
theorem lo230_head (SS : St w g L (V178 o0 (some v) o2) led h) (q : Q v (up s h tk)) : wpAny M A (eval (.Name (Str.ofString "head") pos) (envX (S "parts_in_scope") (fnS (stAt 23)) L 230 (.ref 229) [])) Q E (up s h tk) :=
  r_loc (s := up s h tk) SS (by rfl) q (by kernel_rfl) (by kernel_rfl) (by kernel_rfl)
theorem so230_head (SS : St w g L (V178 o0 o1 o2) led h)
    (q : ∀ h' tk', St w g L (V178 o0 (some v) o2) led h' → (∀ b o, b ≠ L → h.get? b = some o → h'.get? b = some o) → U () (up s h' tk')) : wpAny M A (storeName (envX (S "parts_in_scope") (fnS (stAt 23)) L 230 (.ref 229) []) (Str.ofString "head") v) U E (up s h tk) :=
  r_set SS (by rfl) q (by kernel_rfl) (by kernel_rfl)
theorem lo230_parts (SS : St w g L (V178 o0 o1 (some v)) led h) (q : Q v (up s h tk)) : wpAny M A (eval (.Name (Str.ofString "parts") pos) (envX (S "parts_in_scope") (fnS (stAt 23)) L 230 (.ref 229) [])) Q E (up s h tk) :=
  r_loc (s := up s h tk) SS (by rfl) q (by kernel_rfl) (by kernel_rfl) (by kernel_rfl)
theorem so230_parts (SS : St w g L (V178 o0 o1 o2) led h)
    (q : ∀ h' tk', St w g L (V178 o0 o1 (some v)) led h' → (∀ b o, b ≠ L → h.get? b = some o → h'.get? b = some o) → U () (up s h' tk')) : wpAny M A (storeName (envX (S "parts_in_scope") (fnS (stAt 23)) L 230 (.ref 229) []) (Str.ofString "parts") v) U E (up s h tk) :=
  r_set SS (by rfl) q (by kernel_rfl) (by kernel_rfl)
theorem lo230_FUNCTIONS (SS : St w g L l led h) (q : Q (.ref 194) (up s h tk)) : wpAny M A (eval (.Name (Str.ofString "FUNCTIONS") pos) (envX (S "parts_in_scope") (fnS (stAt 23)) L 230 (.ref 229) [])) Q E (up s h tk) :=
  r_glob (s := up s h tk) SS (g_FUNCTIONS _) q (by kernel_rfl) (by kernel_rfl) (by kernel_rfl)
theorem lo230_SILENT (SS : St w g L l led h) (q : Q (.ref 195) (up s h tk)) : wpAny M A (eval (.Name (Str.ofString "SILENT") pos) (envX (S "parts_in_scope") (fnS (stAt 23)) L 230 (.ref 229) [])) Q E (up s h tk) :=
  r_glob (s := up s h tk) SS (g_SILENT _) q (by kernel_rfl) (by kernel_rfl) (by kernel_rfl)
theorem ml244 (v0 : Value) : mp ([(S "self", v0)].reverse.map fun x => (x.1, some x.2)) = mp (V143 (some v0)) := mp_rev [(S "self", v0)] [] (by kernel_rfl)
theorem en244 {v0 : Value} (R : Room (n + 1) A) (B : Bs w h₀) (k₀ : h₀.StaysIn s.heap) (W : Led) (hW : ∀ p ∈ W, Has s.heap p ∧ h₀.get? p.1 = none)
    (h : ∀ g L h₁ tk, St w g L (V143 (some v0)) W h₁ → h₀.StaysIn g → (∀ b o, b ∉ W.map (·.1) → s.heap.get? b = some o → g.get? b = some o) → (∀ b o, g.get? b = some o → s.heap.get? b = some o) →
      s.heap.StaysIn h₁ → Room n (A.deeper (envX (S "Bound.__init__") (fnS (inCls 24 0)) L 244 (.ref 243) [])) → wpAny (model PW w) (A.deeper (envX (S "Bound.__init__") (fnS (inCls 24 0)) L 244 (.ref 243) [])) (execs (fnB (inCls 24 0)) (envX (S "Bound.__init__") (fnS (inCls 24 0)) L 244 (.ref 243) []))
        (retK Q) NoE (up s h₁ tk)) :
    wpAny (model PW w) A (call (.ref 244) [v0]) Q E s :=
  r_enter (binds := [(S "self", v0)]) (f244 _) (c244 _) R B k₀ W hW (BindsTo.of_eq (by rfl)) (locs (by rfl)) (by rfl) (by rfl) (by rfl) (by decide) fun g L h₁ tk SS => h g L h₁ tk (SS.congr (ml244 v0))
theorem lo244_self (SS : St w g L (V143 (some v)) led h) (q : Q v (up s h tk)) : wpAny M A (eval (.Name (Str.ofString "self") pos) (envX (S "Bound.__init__") (fnS (inCls 24 0)) L 244 (.ref 243) [])) Q E (up s h tk) :=
  r_loc (s := up s h tk) SS (by rfl) q (by kernel_rfl) (by kernel_rfl) (by kernel_rfl)
theorem so244_self (SS : St w g L (V143 o0) led h)
    (q : ∀ h' tk', St w g L (V143 (some v)) led h' → (∀ b o, b ≠ L → h.get? b = some o → h'.get? b = some o) → U () (up s h' tk')) : wpAny M A (storeName (envX (S "Bound.__init__") (fnS (inCls 24 0)) L 244 (.ref 243) []) (Str.ofString "self") v) U E (up s h tk) :=
  r_set SS (by rfl) q (by kernel_rfl) (by kernel_rfl)
theorem ml251 (v0 v1 : Value) : mp ([(S "self", v0), (S "tree", v1)].reverse.map fun x => (x.1, some x.2)) = mp (V251 (some v0) (some v1) none none none) := mp_rev [(S "self", v0), (S "tree", v1)] [S "head", S "part", S "place"] (by kernel_rfl)
theorem en251 {v0 v1 : Value} (R : Room (n + 1) A) (B : Bs w h₀) (k₀ : h₀.StaysIn s.heap) (W : Led) (hW : ∀ p ∈ W, Has s.heap p ∧ h₀.get? p.1 = none)
    (h : ∀ g L h₁ tk, St w g L (V251 (some v0) (some v1) none none none) W h₁ → h₀.StaysIn g → (∀ b o, b ∉ W.map (·.1) → s.heap.get? b = some o → g.get? b = some o) → (∀ b o, g.get? b = some o → s.heap.get? b = some o) →
      s.heap.StaysIn h₁ → Room n (A.deeper (envX (S "Bound.note") (fnS (inCls 24 1)) L 251 (.ref 250) [])) → wpAny (model PW w) (A.deeper (envX (S "Bound.note") (fnS (inCls 24 1)) L 251 (.ref 250) [])) (execs (fnB (inCls 24 1)) (envX (S "Bound.note") (fnS (inCls 24 1)) L 251 (.ref 250) []))
        (retK Q) NoE (up s h₁ tk)) :
    wpAny (model PW w) A (call (.ref 251) [v0, v1]) Q E s :=
  r_enter (binds := [(S "self", v0), (S "tree", v1)]) (f251 _) (c251 _) R B k₀ W hW (BindsTo.of_eq (by rfl)) (locs (by rfl)) (by rfl) (by rfl) (by rfl) (by decide) fun g L h₁ tk SS => h g L h₁ tk (SS.congr (ml251 v0 v1))
theorem lo251_self (SS : St w g L (V251 (some v) o1 o2 o3 o4) led h) (q : Q v (up s h tk)) : wpAny M A (eval (.Name (Str.ofString "self") pos) (envX (S "Bound.note") (fnS (inCls 24 1)) L 251 (.ref 250) [])) Q E (up s h tk) :=
  r_loc (s := up s h tk) SS (by rfl) q (by kernel_rfl) (by kernel_rfl) (by kernel_rfl)
theorem so251_self (SS : St w g L (V251 o0 o1 o2 o3 o4) led h)
    (q : ∀ h' tk', St w g L (V251 (some v) o1 o2 o3 o4) led h' → (∀ b o, b ≠ L → h.get? b = some o → h'.get? b = some o) → U () (up s h' tk')) : wpAny M A (storeName (envX (S "Bound.note") (fnS (inCls 24 1)) L 251 (.ref 250) []) (Str.ofString "self") v) U E (up s h tk) :=
  r_set SS (by rfl) q (by kernel_rfl) (by kernel_rfl)
theorem lo251_tree (SS : St w g L (V251 o0 (some v) o2 o3 o4) led h) (q : Q v (up s h tk)) : wpAny M A (eval (.Name (Str.ofString "tree") pos) (envX (S "Bound.note") (fnS (inCls 24 1)) L 251 (.ref 250) [])) Q E (up s h tk) :=
  r_loc (s := up s h tk) SS (by rfl) q (by kernel_rfl) (by kernel_rfl) (by kernel_rfl)
theorem so251_tree (SS : St w g L (V251 o0 o1 o2 o3 o4) led h)
    (q : ∀ h' tk', St w g L (V251 o0 (some v) o2 o3 o4) led h' → (∀ b o, b ≠ L → h.get? b = some o → h'.get? b = some o) → U () (up s h' tk')) : wpAny M A (storeName (envX (S "Bound.note") (fnS (inCls 24 1)) L 251 (.ref 250) []) (Str.ofString "tree") v) U E (up s h tk) :=
  r_set SS (by rfl) q (by kernel_rfl) (by kernel_rfl)
theorem lo251_head (SS : St w g L (V251 o0 o1 (some v) o3 o4) led h) (q : Q v (up s h tk)) : wpAny M A (eval (.Name (Str.ofString "head") pos) (envX (S "Bound.note") (fnS (inCls 24 1)) L 251 (.ref 250) [])) Q E (up s h tk) :=
  r_loc (s := up s h tk) SS (by rfl) q (by kernel_rfl) (by kernel_rfl) (by kernel_rfl)
theorem so251_head (SS : St w g L (V251 o0 o1 o2 o3 o4) led h)
    (q : ∀ h' tk', St w g L (V251 o0 o1 (some v) o3 o4) led h' → (∀ b o, b ≠ L → h.get? b = some o → h'.get? b = some o) → U () (up s h' tk')) : wpAny M A (storeName (envX (S "Bound.note") (fnS (inCls 24 1)) L 251 (.ref 250) []) (Str.ofString "head") v) U E (up s h tk) :=
  r_set SS (by rfl) q (by kernel_rfl) (by kernel_rfl)
theorem lo251_part (SS : St w g L (V251 o0 o1 o2 (some v) o4) led h) (q : Q v (up s h tk)) : wpAny M A (eval (.Name (Str.ofString "part") pos) (envX (S "Bound.note") (fnS (inCls 24 1)) L 251 (.ref 250) [])) Q E (up s h tk) :=
  r_loc (s := up s h tk) SS (by rfl) q (by kernel_rfl) (by kernel_rfl) (by kernel_rfl)
theorem so251_part (SS : St w g L (V251 o0 o1 o2 o3 o4) led h)
    (q : ∀ h' tk', St w g L (V251 o0 o1 o2 (some v) o4) led h' → (∀ b o, b ≠ L → h.get? b = some o → h'.get? b = some o) → U () (up s h' tk')) : wpAny M A (storeName (envX (S "Bound.note") (fnS (inCls 24 1)) L 251 (.ref 250) []) (Str.ofString "part") v) U E (up s h tk) :=
  r_set SS (by rfl) q (by kernel_rfl) (by kernel_rfl)
theorem lo251_place (SS : St w g L (V251 o0 o1 o2 o3 (some v)) led h) (q : Q v (up s h tk)) : wpAny M A (eval (.Name (Str.ofString "place") pos) (envX (S "Bound.note") (fnS (inCls 24 1)) L 251 (.ref 250) [])) Q E (up s h tk) :=
  r_loc (s := up s h tk) SS (by rfl) q (by kernel_rfl) (by kernel_rfl) (by kernel_rfl)
theorem so251_place (SS : St w g L (V251 o0 o1 o2 o3 o4) led h)
    (q : ∀ h' tk', St w g L (V251 o0 o1 o2 o3 (some v)) led h' → (∀ b o, b ≠ L → h.get? b = some o → h'.get? b = some o) → U () (up s h' tk')) : wpAny M A (storeName (envX (S "Bound.note") (fnS (inCls 24 1)) L 251 (.ref 250) []) (Str.ofString "place") v) U E (up s h tk) :=
  r_set SS (by rfl) q (by kernel_rfl) (by kernel_rfl)
theorem lo251_UPDATES (SS : St w g L l led h) (q : Q (.ref 193) (up s h tk)) : wpAny M A (eval (.Name (Str.ofString "UPDATES") pos) (envX (S "Bound.note") (fnS (inCls 24 1)) L 251 (.ref 250) [])) Q E (up s h tk) :=
  r_glob (s := up s h tk) SS (g_UPDATES _) q (by kernel_rfl) (by kernel_rfl) (by kernel_rfl)
theorem lo251_put_once (SS : St w g L l led h) (q : Q (.ref 202) (up s h tk)) : wpAny M A (eval (.Name (Str.ofString "put_once") pos) (envX (S "Bound.note") (fnS (inCls 24 1)) L 251 (.ref 250) [])) Q E (up s h tk) :=
  r_glob (s := up s h tk) SS (g_put_once _) q (by kernel_rfl) (by kernel_rfl) (by kernel_rfl)
theorem ca251_put_once (SS : St w g L l led h)
    (he : starEach (e :: rest) (envX (S "Bound.note") (fnS (inCls 24 1)) L 251 (.ref 250) []) = (false, eval e (envX (S "Bound.note") (fnS (inCls 24 1)) L 251 (.ref 250) [])) :: starEach rest (envX (S "Bound.note") (fnS (inCls 24 1)) L 251 (.ref 250) [])) (hplain : (backTo pos (starEach rest (envX (S "Bound.note") (fnS (inCls 24 1)) L 251 (.ref 250) []))).any (·.1) = false)
    (q : wpAny (model PW w) A (spliced (backTo pos (starEach (e :: rest) (envX (S "Bound.note") (fnS (inCls 24 1)) L 251 (.ref 250) [])))) (fun vs s₁ => (KK w.params).In s₁.heap ∧ wpAny (model PW w) A (call (.ref 202) vs) Q E s₁) E (up s h tk))
    (heq : eval (.Call (.Name (Str.ofString "put_once") xp) (e :: rest) [] pos) (envX (S "Bound.note") (fnS (inCls 24 1)) L 251 (.ref 250) []) = (do callWith pos (← eval (.Name (Str.ofString "put_once") xp) (envX (S "Bound.note") (fnS (inCls 24 1)) L 251 (.ref 250) [])) [] (backTo pos (starEach (e :: rest) (envX (S "Bound.note") (fnS (inCls 24 1)) L 251 (.ref 250) []))) (backToKw pos (keywordEach [] (envX (S "Bound.note") (fnS (inCls 24 1)) L 251 (.ref 250) []))))) :
    wpAny (model PW w) A (eval (.Call (.Name (Str.ofString "put_once") xp) (e :: rest) [] pos) (envX (S "Bound.note") (fnS (inCls 24 1)) L 251 (.ref 250) [])) Q E (up s h tk) :=
  r_call (s := up s h tk) SS (g_put_once _) (kp202 _) (by kernel_rfl) (by kernel_rfl) (by kernel_rfl) he hplain q heq
theorem lo251_place_names (SS : St w g L l led h) (q : Q (.ref 209) (up s h tk)) : wpAny M A (eval (.Name (Str.ofString "place_names") pos) (envX (S "Bound.note") (fnS (inCls 24 1)) L 251 (.ref 250) [])) Q E (up s h tk) :=
  r_glob (s := up s h tk) SS (g_place_names _) q (by kernel_rfl) (by kernel_rfl) (by kernel_rfl)
theorem ca251_place_names (SS : St w g L l led h)
    (he : starEach (e :: rest) (envX (S "Bound.note") (fnS (inCls 24 1)) L 251 (.ref 250) []) = (false, eval e (envX (S "Bound.note") (fnS (inCls 24 1)) L 251 (.ref 250) [])) :: starEach rest (envX (S "Bound.note") (fnS (inCls 24 1)) L 251 (.ref 250) [])) (hplain : (backTo pos (starEach rest (envX (S "Bound.note") (fnS (inCls 24 1)) L 251 (.ref 250) []))).any (·.1) = false)
    (q : wpAny (model PW w) A (spliced (backTo pos (starEach (e :: rest) (envX (S "Bound.note") (fnS (inCls 24 1)) L 251 (.ref 250) [])))) (fun vs s₁ => (KK w.params).In s₁.heap ∧ wpAny (model PW w) A (call (.ref 209) vs) Q E s₁) E (up s h tk))
    (heq : eval (.Call (.Name (Str.ofString "place_names") xp) (e :: rest) [] pos) (envX (S "Bound.note") (fnS (inCls 24 1)) L 251 (.ref 250) []) = (do callWith pos (← eval (.Name (Str.ofString "place_names") xp) (envX (S "Bound.note") (fnS (inCls 24 1)) L 251 (.ref 250) [])) [] (backTo pos (starEach (e :: rest) (envX (S "Bound.note") (fnS (inCls 24 1)) L 251 (.ref 250) []))) (backToKw pos (keywordEach [] (envX (S "Bound.note") (fnS (inCls 24 1)) L 251 (.ref 250) []))))) :
    wpAny (model PW w) A (eval (.Call (.Name (Str.ofString "place_names") xp) (e :: rest) [] pos) (envX (S "Bound.note") (fnS (inCls 24 1)) L 251 (.ref 250) [])) Q E (up s h tk) :=
  r_call (s := up s h tk) SS (g_place_names _) (kp209 _) (by kernel_rfl) (by kernel_rfl) (by kernel_rfl) he hplain q heq
theorem lo251_head_of (SS : St w g L l led h) (q : Q (.ref 35) (up s h tk)) : wpAny M A (eval (.Name (Str.ofString "head_of") pos) (envX (S "Bound.note") (fnS (inCls 24 1)) L 251 (.ref 250) [])) Q E (up s h tk) :=
  r_glob (s := up s h tk) SS (g_head_of _) q (by kernel_rfl) (by kernel_rfl) (by kernel_rfl)
theorem ca251_head_of (SS : St w g L l led h)
    (he : starEach (e :: rest) (envX (S "Bound.note") (fnS (inCls 24 1)) L 251 (.ref 250) []) = (false, eval e (envX (S "Bound.note") (fnS (inCls 24 1)) L 251 (.ref 250) [])) :: starEach rest (envX (S "Bound.note") (fnS (inCls 24 1)) L 251 (.ref 250) [])) (hplain : (backTo pos (starEach rest (envX (S "Bound.note") (fnS (inCls 24 1)) L 251 (.ref 250) []))).any (·.1) = false)
    (q : wpAny (model PW w) A (spliced (backTo pos (starEach (e :: rest) (envX (S "Bound.note") (fnS (inCls 24 1)) L 251 (.ref 250) [])))) (fun vs s₁ => (KK w.params).In s₁.heap ∧ wpAny (model PW w) A (call (.ref 35) vs) Q E s₁) E (up s h tk))
    (heq : eval (.Call (.Name (Str.ofString "head_of") xp) (e :: rest) [] pos) (envX (S "Bound.note") (fnS (inCls 24 1)) L 251 (.ref 250) []) = (do callWith pos (← eval (.Name (Str.ofString "head_of") xp) (envX (S "Bound.note") (fnS (inCls 24 1)) L 251 (.ref 250) [])) [] (backTo pos (starEach (e :: rest) (envX (S "Bound.note") (fnS (inCls 24 1)) L 251 (.ref 250) []))) (backToKw pos (keywordEach [] (envX (S "Bound.note") (fnS (inCls 24 1)) L 251 (.ref 250) []))))) :
    wpAny (model PW w) A (eval (.Call (.Name (Str.ofString "head_of") xp) (e :: rest) [] pos) (envX (S "Bound.note") (fnS (inCls 24 1)) L 251 (.ref 250) [])) Q E (up s h tk) :=
  r_call (s := up s h tk) SS (g_head_of _) (kp35 _) (by kernel_rfl) (by kernel_rfl) (by kernel_rfl) he hplain q heq
theorem lo251_FUNCTIONS (SS : St w g L l led h) (q : Q (.ref 194) (up s h tk)) : wpAny M A (eval (.Name (Str.ofString "FUNCTIONS") pos) (envX (S "Bound.note") (fnS (inCls 24 1)) L 251 (.ref 250) [])) Q E (up s h tk) :=
  r_glob (s := up s h tk) SS (g_FUNCTIONS _) q (by kernel_rfl) (by kernel_rfl) (by kernel_rfl)
theorem lo251_own_name (SS : St w g L l led h) (q : Q (.ref 223) (up s h tk)) : wpAny M A (eval (.Name (Str.ofString "own_name") pos) (envX (S "Bound.note") (fnS (inCls 24 1)) L 251 (.ref 250) [])) Q E (up s h tk) :=
  r_glob (s := up s h tk) SS (g_own_name _) q (by kernel_rfl) (by kernel_rfl) (by kernel_rfl)
theorem ca251_own_name (SS : St w g L l led h)
    (he : starEach (e :: rest) (envX (S "Bound.note") (fnS (inCls 24 1)) L 251 (.ref 250) []) = (false, eval e (envX (S "Bound.note") (fnS (inCls 24 1)) L 251 (.ref 250) [])) :: starEach rest (envX (S "Bound.note") (fnS (inCls 24 1)) L 251 (.ref 250) [])) (hplain : (backTo pos (starEach rest (envX (S "Bound.note") (fnS (inCls 24 1)) L 251 (.ref 250) []))).any (·.1) = false)
    (q : wpAny (model PW w) A (spliced (backTo pos (starEach (e :: rest) (envX (S "Bound.note") (fnS (inCls 24 1)) L 251 (.ref 250) [])))) (fun vs s₁ => (KK w.params).In s₁.heap ∧ wpAny (model PW w) A (call (.ref 223) vs) Q E s₁) E (up s h tk))
    (heq : eval (.Call (.Name (Str.ofString "own_name") xp) (e :: rest) [] pos) (envX (S "Bound.note") (fnS (inCls 24 1)) L 251 (.ref 250) []) = (do callWith pos (← eval (.Name (Str.ofString "own_name") xp) (envX (S "Bound.note") (fnS (inCls 24 1)) L 251 (.ref 250) [])) [] (backTo pos (starEach (e :: rest) (envX (S "Bound.note") (fnS (inCls 24 1)) L 251 (.ref 250) []))) (backToKw pos (keywordEach [] (envX (S "Bound.note") (fnS (inCls 24 1)) L 251 (.ref 250) []))))) :
    wpAny (model PW w) A (eval (.Call (.Name (Str.ofString "own_name") xp) (e :: rest) [] pos) (envX (S "Bound.note") (fnS (inCls 24 1)) L 251 (.ref 250) [])) Q E (up s h tk) :=
  r_call (s := up s h tk) SS (g_own_name _) (kp223 _) (by kernel_rfl) (by kernel_rfl) (by kernel_rfl) he hplain q heq
theorem ml265 (v0 : Value) : mp ([(S "tree", v0)].reverse.map fun x => (x.1, some x.2)) = mp (V265 (some v0) none none none) := mp_rev [(S "tree", v0)] [S "found", S "left", S "here"] (by kernel_rfl)
theorem en265 {v0 : Value} (R : Room (n + 1) A) (B : Bs w h₀) (k₀ : h₀.StaysIn s.heap) (W : Led) (hW : ∀ p ∈ W, Has s.heap p ∧ h₀.get? p.1 = none)
    (h : ∀ g L h₁ tk, St w g L (V265 (some v0) none none none) W h₁ → h₀.StaysIn g → (∀ b o, b ∉ W.map (·.1) → s.heap.get? b = some o → g.get? b = some o) → (∀ b o, g.get? b = some o → s.heap.get? b = some o) →
      s.heap.StaysIn h₁ → Room n (A.deeper (envX (S "bound_names") (fnS (stAt 25)) L 265 (.ref 264) [])) → wpAny (model PW w) (A.deeper (envX (S "bound_names") (fnS (stAt 25)) L 265 (.ref 264) [])) (execs (fnB (stAt 25)) (envX (S "bound_names") (fnS (stAt 25)) L 265 (.ref 264) []))
        (retK Q) NoE (up s h₁ tk)) :
    wpAny (model PW w) A (call (.ref 265) [v0]) Q E s :=
  r_enter (binds := [(S "tree", v0)]) (f265 _) (c265 _) R B k₀ W hW (BindsTo.of_eq (by rfl)) (locs (by rfl)) (by rfl) (by rfl) (by rfl) (by decide) fun g L h₁ tk SS => h g L h₁ tk (SS.congr (ml265 v0))
theorem lo265_tree (SS : St w g L (V265 (some v) o1 o2 o3) led h) (q : Q v (up s h tk)) : wpAny M A (eval (.Name (Str.ofString "tree") pos) (envX (S "bound_names") (fnS (stAt 25)) L 265 (.ref 264) [])) Q E (up s h tk) :=
  r_loc (s := up s h tk) SS (by rfl) q (by kernel_rfl) (by kernel_rfl) (by kernel_rfl)
theorem so265_tree (SS : St w g L (V265 o0 o1 o2 o3) led h)
    (q : ∀ h' tk', St w g L (V265 (some v) o1 o2 o3) led h' → (∀ b o, b ≠ L → h.get? b = some o → h'.get? b = some o) → U () (up s h' tk')) : wpAny M A (storeName (envX (S "bound_names") (fnS (stAt 25)) L 265 (.ref 264) []) (Str.ofString "tree") v) U E (up s h tk) :=
  r_set SS (by rfl) q (by kernel_rfl) (by kernel_rfl)
theorem lo265_found (SS : St w g L (V265 o0 (some v) o2 o3) led h) (q : Q v (up s h tk)) : wpAny M A (eval (.Name (Str.ofString "found") pos) (envX (S "bound_names") (fnS (stAt 25)) L 265 (.ref 264) [])) Q E (up s h tk) :=
  r_loc (s := up s h tk) SS (by rfl) q (by kernel_rfl) (by kernel_rfl) (by kernel_rfl)
theorem so265_found (SS : St w g L (V265 o0 o1 o2 o3) led h)
    (q : ∀ h' tk', St w g L (V265 o0 (some v) o2 o3) led h' → (∀ b o, b ≠ L → h.get? b = some o → h'.get? b = some o) → U () (up s h' tk')) : wpAny M A (storeName (envX (S "bound_names") (fnS (stAt 25)) L 265 (.ref 264) []) (Str.ofString "found") v) U E (up s h tk) :=
  r_set SS (by rfl) q (by kernel_rfl) (by kernel_rfl)
theorem lo265_left (SS : St w g L (V265 o0 o1 (some v) o3) led h) (q : Q v (up s h tk)) : wpAny M A (eval (.Name (Str.ofString "left") pos) (envX (S "bound_names") (fnS (stAt 25)) L 265 (.ref 264) [])) Q E (up s h tk) :=
  r_loc (s := up s h tk) SS (by rfl) q (by kernel_rfl) (by kernel_rfl) (by kernel_rfl)
theorem so265_left (SS : St w g L (V265 o0 o1 o2 o3) led h)
    (q : ∀ h' tk', St w g L (V265 o0 o1 (some v) o3) led h' → (∀ b o, b ≠ L → h.get? b = some o → h'.get? b = some o) → U () (up s h' tk')) : wpAny M A (storeName (envX (S "bound_names") (fnS (stAt 25)) L 265 (.ref 264) []) (Str.ofString "left") v) U E (up s h tk) :=
  r_set SS (by rfl) q (by kernel_rfl) (by kernel_rfl)
theorem lo265_here (SS : St w g L (V265 o0 o1 o2 (some v)) led h) (q : Q v (up s h tk)) : wpAny M A (eval (.Name (Str.ofString "here") pos) (envX (S "bound_names") (fnS (stAt 25)) L 265 (.ref 264) [])) Q E (up s h tk) :=
  r_loc (s := up s h tk) SS (by rfl) q (by kernel_rfl) (by kernel_rfl) (by kernel_rfl)
theorem so265_here (SS : St w g L (V265 o0 o1 o2 o3) led h)
    (q : ∀ h' tk', St w g L (V265 o0 o1 o2 (some v)) led h' → (∀ b o, b ≠ L → h.get? b = some o → h'.get? b = some o) → U () (up s h' tk')) : wpAny M A (storeName (envX (S "bound_names") (fnS (stAt 25)) L 265 (.ref 264) []) (Str.ofString "here") v) U E (up s h tk) :=
  r_set SS (by rfl) q (by kernel_rfl) (by kernel_rfl)
theorem lo265_Bound (SS : St w g L l led h) (q : Q (.ref 254) (up s h tk)) : wpAny M A (eval (.Name (Str.ofString "Bound") pos) (envX (S "bound_names") (fnS (stAt 25)) L 265 (.ref 264) [])) Q E (up s h tk) :=
  r_glob (s := up s h tk) SS (g_Bound _) q (by kernel_rfl) (by kernel_rfl) (by kernel_rfl)
theorem lo265_parts_in_scope (SS : St w g L l led h) (q : Q (.ref 230) (up s h tk)) : wpAny M A (eval (.Name (Str.ofString "parts_in_scope") pos) (envX (S "bound_names") (fnS (stAt 25)) L 265 (.ref 264) [])) Q E (up s h tk) :=
  r_glob (s := up s h tk) SS (g_parts_in_scope _) q (by kernel_rfl) (by kernel_rfl) (by kernel_rfl)
theorem ca265_parts_in_scope (SS : St w g L l led h)
    (he : starEach (e :: rest) (envX (S "bound_names") (fnS (stAt 25)) L 265 (.ref 264) []) = (false, eval e (envX (S "bound_names") (fnS (stAt 25)) L 265 (.ref 264) [])) :: starEach rest (envX (S "bound_names") (fnS (stAt 25)) L 265 (.ref 264) [])) (hplain : (backTo pos (starEach rest (envX (S "bound_names") (fnS (stAt 25)) L 265 (.ref 264) []))).any (·.1) = false)
    (q : wpAny (model PW w) A (spliced (backTo pos (starEach (e :: rest) (envX (S "bound_names") (fnS (stAt 25)) L 265 (.ref 264) [])))) (fun vs s₁ => (KK w.params).In s₁.heap ∧ wpAny (model PW w) A (call (.ref 230) vs) Q E s₁) E (up s h tk))
    (heq : eval (.Call (.Name (Str.ofString "parts_in_scope") xp) (e :: rest) [] pos) (envX (S "bound_names") (fnS (stAt 25)) L 265 (.ref 264) []) = (do callWith pos (← eval (.Name (Str.ofString "parts_in_scope") xp) (envX (S "bound_names") (fnS (stAt 25)) L 265 (.ref 264) [])) [] (backTo pos (starEach (e :: rest) (envX (S "bound_names") (fnS (stAt 25)) L 265 (.ref 264) []))) (backToKw pos (keywordEach [] (envX (S "bound_names") (fnS (stAt 25)) L 265 (.ref 264) []))))) :
    wpAny (model PW w) A (eval (.Call (.Name (Str.ofString "parts_in_scope") xp) (e :: rest) [] pos) (envX (S "bound_names") (fnS (stAt 25)) L 265 (.ref 264) [])) Q E (up s h tk) :=
  r_call (s := up s h tk) SS (g_parts_in_scope _) (kp230 _) (by kernel_rfl) (by kernel_rfl) (by kernel_rfl) he hplain q heq
theorem ml272 (v0 v1 : Value) : mp ([(S "script", v0), (S "k", v1)].reverse.map fun x => (x.1, some x.2)) = mp (V272 (some v0) (some v1) none) := mp_rev [(S "script", v0), (S "k", v1)] [S "number"] (by kernel_rfl)
theorem en272 {v0 v1 : Value} (R : Room (n + 1) A) (B : Bs w h₀) (k₀ : h₀.StaysIn s.heap) (W : Led) (hW : ∀ p ∈ W, Has s.heap p ∧ h₀.get? p.1 = none)
    (h : ∀ g L h₁ tk, St w g L (V272 (some v0) (some v1) none) W h₁ → h₀.StaysIn g → (∀ b o, b ∉ W.map (·.1) → s.heap.get? b = some o → g.get? b = some o) → (∀ b o, g.get? b = some o → s.heap.get? b = some o) →
      s.heap.StaysIn h₁ → Room n (A.deeper (envX (S "_law_spring") (fnS (stAt 27)) L 272 (.ref 271) [])) → wpAny (model PW w) (A.deeper (envX (S "_law_spring") (fnS (stAt 27)) L 272 (.ref 271) [])) (execs (fnB (stAt 27)) (envX (S "_law_spring") (fnS (stAt 27)) L 272 (.ref 271) []))
        (retK Q) NoE (up s h₁ tk)) :
    wpAny (model PW w) A (call (.ref 272) [v0, v1]) Q E s :=
  r_enter (binds := [(S "script", v0), (S "k", v1)]) (f272 _) (c272 _) R B k₀ W hW (BindsTo.of_eq (by rfl)) (locs (by rfl)) (by rfl) (by rfl) (by rfl) (by decide) fun g L h₁ tk SS => h g L h₁ tk (SS.congr (ml272 v0 v1))
theorem lo272_script (SS : St w g L (V272 (some v) o1 o2) led h) (q : Q v (up s h tk)) : wpAny M A (eval (.Name (Str.ofString "script") pos) (envX (S "_law_spring") (fnS (stAt 27)) L 272 (.ref 271) [])) Q E (up s h tk) :=
  r_loc (s := up s h tk) SS (by rfl) q (by kernel_rfl) (by kernel_rfl) (by kernel_rfl)
theorem so272_script (SS : St w g L (V272 o0 o1 o2) led h)
    (q : ∀ h' tk', St w g L (V272 (some v) o1 o2) led h' → (∀ b o, b ≠ L → h.get? b = some o → h'.get? b = some o) → U () (up s h' tk')) : wpAny M A (storeName (envX (S "_law_spring") (fnS (stAt 27)) L 272 (.ref 271) []) (Str.ofString "script") v) U E (up s h tk) :=
  r_set SS (by rfl) q (by kernel_rfl) (by kernel_rfl)
theorem lo272_k (SS : St w g L (V272 o0 (some v) o2) led h) (q : Q v (up s h tk)) : wpAny M A (eval (.Name (Str.ofString "k") pos) (envX (S "_law_spring") (fnS (stAt 27)) L 272 (.ref 271) [])) Q E (up s h tk) :=
  r_loc (s := up s h tk) SS (by rfl) q (by kernel_rfl) (by kernel_rfl) (by kernel_rfl)
theorem so272_k (SS : St w g L (V272 o0 o1 o2) led h)
    (q : ∀ h' tk', St w g L (V272 o0 (some v) o2) led h' → (∀ b o, b ≠ L → h.get? b = some o → h'.get? b = some o) → U () (up s h' tk')) : wpAny M A (storeName (envX (S "_law_spring") (fnS (stAt 27)) L 272 (.ref 271) []) (Str.ofString "k") v) U E (up s h tk) :=
  r_set SS (by rfl) q (by kernel_rfl) (by kernel_rfl)
theorem lo272_number (SS : St w g L (V272 o0 o1 (some v)) led h) (q : Q v (up s h tk)) : wpAny M A (eval (.Name (Str.ofString "number") pos) (envX (S "_law_spring") (fnS (stAt 27)) L 272 (.ref 271) [])) Q E (up s h tk) :=
  r_loc (s := up s h tk) SS (by rfl) q (by kernel_rfl) (by kernel_rfl) (by kernel_rfl)
theorem so272_number (SS : St w g L (V272 o0 o1 o2) led h)
    (q : ∀ h' tk', St w g L (V272 o0 o1 (some v)) led h' → (∀ b o, b ≠ L → h.get? b = some o → h'.get? b = some o) → U () (up s h' tk')) : wpAny M A (storeName (envX (S "_law_spring") (fnS (stAt 27)) L 272 (.ref 271) []) (Str.ofString "number") v) U E (up s h tk) :=
  r_set SS (by rfl) q (by kernel_rfl) (by kernel_rfl)
theorem lo272_len (SS : St w g L l led h) (q : Q (.builtin "len") (up s h tk)) : wpAny M A (eval (.Name (Str.ofString "len") pos) (envX (S "_law_spring") (fnS (stAt 27)) L 272 (.ref 271) [])) Q E (up s h tk) :=
  r_blt (s := up s h tk) SS (b_len _) (by kernel_rfl) (by decide) q (by kernel_rfl) (by kernel_rfl) (by kernel_rfl)
theorem lo272_abs (SS : St w g L l led h) (q : Q (.builtin "abs") (up s h tk)) : wpAny M A (eval (.Name (Str.ofString "abs") pos) (envX (S "_law_spring") (fnS (stAt 27)) L 272 (.ref 271) [])) Q E (up s h tk) :=
  r_blt (s := up s h tk) SS (b_abs _) (by kernel_rfl) (by decide) q (by kernel_rfl) (by kernel_rfl) (by kernel_rfl)
theorem ml279 (v0 v1 : Value) : mp ([(S "spring", v0), (S "many", v1)].reverse.map fun x => (x.1, some x.2)) = mp (V279 (some v0) (some v1) none) := mp_rev [(S "spring", v0), (S "many", v1)] [S "got"] (by kernel_rfl)
theorem en279 {v0 v1 : Value} (R : Room (n + 1) A) (B : Bs w h₀) (k₀ : h₀.StaysIn s.heap) (W : Led) (hW : ∀ p ∈ W, Has s.heap p ∧ h₀.get? p.1 = none)
    (h : ∀ g L h₁ tk, St w g L (V279 (some v0) (some v1) none) W h₁ → h₀.StaysIn g → (∀ b o, b ∉ W.map (·.1) → s.heap.get? b = some o → g.get? b = some o) → (∀ b o, g.get? b = some o → s.heap.get? b = some o) →
      s.heap.StaysIn h₁ → Room n (A.deeper (envX (S "_law_drop") (fnS (stAt 28)) L 279 (.ref 278) [])) → wpAny (model PW w) (A.deeper (envX (S "_law_drop") (fnS (stAt 28)) L 279 (.ref 278) [])) (execs (fnB (stAt 28)) (envX (S "_law_drop") (fnS (stAt 28)) L 279 (.ref 278) []))
        (retK Q) NoE (up s h₁ tk)) :
    wpAny (model PW w) A (call (.ref 279) [v0, v1]) Q E s :=
  r_enter (binds := [(S "spring", v0), (S "many", v1)]) (f279 _) (c279 _) R B k₀ W hW (BindsTo.of_eq (by rfl)) (locs (by rfl)) (by rfl) (by rfl) (by rfl) (by decide) fun g L h₁ tk SS => h g L h₁ tk (SS.congr (ml279 v0 v1))
theorem lo279_spring (SS : St w g L (V279 (some v) o1 o2) led h) (q : Q v (up s h tk)) : wpAny M A (eval (.Name (Str.ofString "spring") pos) (envX (S "_law_drop") (fnS (stAt 28)) L 279 (.ref 278) [])) Q E (up s h tk) :=
  r_loc (s := up s h tk) SS (by rfl) q (by kernel_rfl) (by kernel_rfl) (by kernel_rfl)
theorem so279_spring (SS : St w g L (V279 o0 o1 o2) led h)
    (q : ∀ h' tk', St w g L (V279 (some v) o1 o2) led h' → (∀ b o, b ≠ L → h.get? b = some o → h'.get? b = some o) → U () (up s h' tk')) : wpAny M A (storeName (envX (S "_law_drop") (fnS (stAt 28)) L 279 (.ref 278) []) (Str.ofString "spring") v) U E (up s h tk) :=
  r_set SS (by rfl) q (by kernel_rfl) (by kernel_rfl)
theorem lo279_many (SS : St w g L (V279 o0 (some v) o2) led h) (q : Q v (up s h tk)) : wpAny M A (eval (.Name (Str.ofString "many") pos) (envX (S "_law_drop") (fnS (stAt 28)) L 279 (.ref 278) [])) Q E (up s h tk) :=
  r_loc (s := up s h tk) SS (by rfl) q (by kernel_rfl) (by kernel_rfl) (by kernel_rfl)
theorem so279_many (SS : St w g L (V279 o0 o1 o2) led h)
    (q : ∀ h' tk', St w g L (V279 o0 (some v) o2) led h' → (∀ b o, b ≠ L → h.get? b = some o → h'.get? b = some o) → U () (up s h' tk')) : wpAny M A (storeName (envX (S "_law_drop") (fnS (stAt 28)) L 279 (.ref 278) []) (Str.ofString "many") v) U E (up s h tk) :=
  r_set SS (by rfl) q (by kernel_rfl) (by kernel_rfl)
theorem lo279_got (SS : St w g L (V279 o0 o1 (some v)) led h) (q : Q v (up s h tk)) : wpAny M A (eval (.Name (Str.ofString "got") pos) (envX (S "_law_drop") (fnS (stAt 28)) L 279 (.ref 278) [])) Q E (up s h tk) :=
  r_loc (s := up s h tk) SS (by rfl) q (by kernel_rfl) (by kernel_rfl) (by kernel_rfl)
theorem so279_got (SS : St w g L (V279 o0 o1 o2) led h)
    (q : ∀ h' tk', St w g L (V279 o0 o1 (some v)) led h' → (∀ b o, b ≠ L → h.get? b = some o → h'.get? b = some o) → U () (up s h' tk')) : wpAny M A (storeName (envX (S "_law_drop") (fnS (stAt 28)) L 279 (.ref 278) []) (Str.ofString "got") v) U E (up s h tk) :=
  r_set SS (by rfl) q (by kernel_rfl) (by kernel_rfl)
theorem ml286 (v0 v1 : Value) : mp ([(S "head", v0), (S "parts", v1)].reverse.map fun x => (x.1, some x.2)) = mp (V286 (some v0) (some v1)) := mp_rev [(S "head", v0), (S "parts", v1)] [] (by kernel_rfl)
theorem en286 {v0 v1 : Value} (R : Room (n + 1) A) (B : Bs w h₀) (k₀ : h₀.StaysIn s.heap) (W : Led) (hW : ∀ p ∈ W, Has s.heap p ∧ h₀.get? p.1 = none)
    (h : ∀ g L h₁ tk, St w g L (V286 (some v0) (some v1)) W h₁ → h₀.StaysIn g → (∀ b o, b ∉ W.map (·.1) → s.heap.get? b = some o → g.get? b = some o) → (∀ b o, g.get? b = some o → s.heap.get? b = some o) →
      s.heap.StaysIn h₁ → Room n (A.deeper (envX (S "_law_tree") (fnS (stAt 29)) L 286 (.ref 285) [])) → wpAny (model PW w) (A.deeper (envX (S "_law_tree") (fnS (stAt 29)) L 286 (.ref 285) [])) (execs (fnB (stAt 29)) (envX (S "_law_tree") (fnS (stAt 29)) L 286 (.ref 285) []))
        (retK Q) NoE (up s h₁ tk)) :
    wpAny (model PW w) A (call (.ref 286) [v0, v1]) Q E s :=
  r_enter (binds := [(S "head", v0), (S "parts", v1)]) (f286 _) (c286 _) R B k₀ W hW (BindsTo.of_eq (by rfl)) (locs (by rfl)) (by rfl) (by rfl) (by rfl) (by decide) fun g L h₁ tk SS => h g L h₁ tk (SS.congr (ml286 v0 v1))
theorem lo286_head (SS : St w g L (V286 (some v) o1) led h) (q : Q v (up s h tk)) : wpAny M A (eval (.Name (Str.ofString "head") pos) (envX (S "_law_tree") (fnS (stAt 29)) L 286 (.ref 285) [])) Q E (up s h tk) :=
  r_loc (s := up s h tk) SS (by rfl) q (by kernel_rfl) (by kernel_rfl) (by kernel_rfl)
theorem so286_head (SS : St w g L (V286 o0 o1) led h)
    (q : ∀ h' tk', St w g L (V286 (some v) o1) led h' → (∀ b o, b ≠ L → h.get? b = some o → h'.get? b = some o) → U () (up s h' tk')) : wpAny M A (storeName (envX (S "_law_tree") (fnS (stAt 29)) L 286 (.ref 285) []) (Str.ofString "head") v) U E (up s h tk) :=
  r_set SS (by rfl) q (by kernel_rfl) (by kernel_rfl)
theorem lo286_parts (SS : St w g L (V286 o0 (some v)) led h) (q : Q v (up s h tk)) : wpAny M A (eval (.Name (Str.ofString "parts") pos) (envX (S "_law_tree") (fnS (stAt 29)) L 286 (.ref 285) [])) Q E (up s h tk) :=
  r_loc (s := up s h tk) SS (by rfl) q (by kernel_rfl) (by kernel_rfl) (by kernel_rfl)
theorem so286_parts (SS : St w g L (V286 o0 o1) led h)
    (q : ∀ h' tk', St w g L (V286 o0 (some v)) led h' → (∀ b o, b ≠ L → h.get? b = some o → h'.get? b = some o) → U () (up s h' tk')) : wpAny M A (storeName (envX (S "_law_tree") (fnS (stAt 29)) L 286 (.ref 285) []) (Str.ofString "parts") v) U E (up s h tk) :=
  r_set SS (by rfl) q (by kernel_rfl) (by kernel_rfl)
theorem lo286_tuple (SS : St w g L l led h) (q : Q (.type "tuple") (up s h tk)) : wpAny M A (eval (.Name (Str.ofString "tuple") pos) (envX (S "_law_tree") (fnS (stAt 29)) L 286 (.ref 285) [])) Q E (up s h tk) :=
  r_blt (s := up s h tk) SS (b_tuple _) (by kernel_rfl) (by decide) q (by kernel_rfl) (by kernel_rfl) (by kernel_rfl)
theorem ml293 (v0 : Value) : mp ([(S "spring", v0)].reverse.map fun x => (x.1, some x.2)) = mp (V293 (some v0)) := mp_rev [(S "spring", v0)] [] (by kernel_rfl)
theorem en293 {v0 : Value} (R : Room (n + 1) A) (B : Bs w h₀) (k₀ : h₀.StaysIn s.heap) (W : Led) (hW : ∀ p ∈ W, Has s.heap p ∧ h₀.get? p.1 = none)
    (h : ∀ g L h₁ tk, St w g L (V293 (some v0)) W h₁ → h₀.StaysIn g → (∀ b o, b ∉ W.map (·.1) → s.heap.get? b = some o → g.get? b = some o) → (∀ b o, g.get? b = some o → s.heap.get? b = some o) →
      s.heap.StaysIn h₁ → Room n (A.deeper (envX (S "_law_name") (fnS (stAt 30)) L 293 (.ref 292) [])) → wpAny (model PW w) (A.deeper (envX (S "_law_name") (fnS (stAt 30)) L 293 (.ref 292) [])) (execs (fnB (stAt 30)) (envX (S "_law_name") (fnS (stAt 30)) L 293 (.ref 292) []))
        (retK Q) NoE (up s h₁ tk)) :
    wpAny (model PW w) A (call (.ref 293) [v0]) Q E s :=
  r_enter (binds := [(S "spring", v0)]) (f293 _) (c293 _) R B k₀ W hW (BindsTo.of_eq (by rfl)) (locs (by rfl)) (by rfl) (by rfl) (by rfl) (by decide) fun g L h₁ tk SS => h g L h₁ tk (SS.congr (ml293 v0))
theorem lo293_spring (SS : St w g L (V293 (some v)) led h) (q : Q v (up s h tk)) : wpAny M A (eval (.Name (Str.ofString "spring") pos) (envX (S "_law_name") (fnS (stAt 30)) L 293 (.ref 292) [])) Q E (up s h tk) :=
  r_loc (s := up s h tk) SS (by rfl) q (by kernel_rfl) (by kernel_rfl) (by kernel_rfl)
theorem so293_spring (SS : St w g L (V293 o0) led h)
    (q : ∀ h' tk', St w g L (V293 (some v)) led h' → (∀ b o, b ≠ L → h.get? b = some o → h'.get? b = some o) → U () (up s h' tk')) : wpAny M A (storeName (envX (S "_law_name") (fnS (stAt 30)) L 293 (.ref 292) []) (Str.ofString "spring") v) U E (up s h tk) :=
  r_set SS (by rfl) q (by kernel_rfl) (by kernel_rfl)
theorem lo293_law_drop (SS : St w g L l led h) (q : Q (.ref 279) (up s h tk)) : wpAny M A (eval (.Name (Str.ofString "_law_drop") pos) (envX (S "_law_name") (fnS (stAt 30)) L 293 (.ref 292) [])) Q E (up s h tk) :=
  r_glob (s := up s h tk) SS (g_law_drop _) q (by kernel_rfl) (by kernel_rfl) (by kernel_rfl)
theorem ca293_law_drop (SS : St w g L l led h)
    (he : starEach (e :: rest) (envX (S "_law_name") (fnS (stAt 30)) L 293 (.ref 292) []) = (false, eval e (envX (S "_law_name") (fnS (stAt 30)) L 293 (.ref 292) [])) :: starEach rest (envX (S "_law_name") (fnS (stAt 30)) L 293 (.ref 292) [])) (hplain : (backTo pos (starEach rest (envX (S "_law_name") (fnS (stAt 30)) L 293 (.ref 292) []))).any (·.1) = false)
    (q : wpAny (model PW w) A (spliced (backTo pos (starEach (e :: rest) (envX (S "_law_name") (fnS (stAt 30)) L 293 (.ref 292) [])))) (fun vs s₁ => (KK w.params).In s₁.heap ∧ wpAny (model PW w) A (call (.ref 279) vs) Q E s₁) E (up s h tk))
    (heq : eval (.Call (.Name (Str.ofString "_law_drop") xp) (e :: rest) [] pos) (envX (S "_law_name") (fnS (stAt 30)) L 293 (.ref 292) []) = (do callWith pos (← eval (.Name (Str.ofString "_law_drop") xp) (envX (S "_law_name") (fnS (stAt 30)) L 293 (.ref 292) [])) [] (backTo pos (starEach (e :: rest) (envX (S "_law_name") (fnS (stAt 30)) L 293 (.ref 292) []))) (backToKw pos (keywordEach [] (envX (S "_law_name") (fnS (stAt 30)) L 293 (.ref 292) []))))) :
    wpAny (model PW w) A (eval (.Call (.Name (Str.ofString "_law_drop") xp) (e :: rest) [] pos) (envX (S "_law_name") (fnS (stAt 30)) L 293 (.ref 292) [])) Q E (up s h tk) :=
  r_call (s := up s h tk) SS (g_law_drop _) (kp279 _) (by kernel_rfl) (by kernel_rfl) (by kernel_rfl) he hplain q heq
theorem ml300 (v0 : Value) : mp ([(S "spring", v0)].reverse.map fun x => (x.1, some x.2)) = mp (V300 (some v0) none) := mp_rev [(S "spring", v0)] [S "way"] (by kernel_rfl)
theorem en300 {v0 : Value} (R : Room (n + 1) A) (B : Bs w h₀) (k₀ : h₀.StaysIn s.heap) (W : Led) (hW : ∀ p ∈ W, Has s.heap p ∧ h₀.get? p.1 = none)
    (h : ∀ g L h₁ tk, St w g L (V300 (some v0) none) W h₁ → h₀.StaysIn g → (∀ b o, b ∉ W.map (·.1) → s.heap.get? b = some o → g.get? b = some o) → (∀ b o, g.get? b = some o → s.heap.get? b = some o) →
      s.heap.StaysIn h₁ → Room n (A.deeper (envX (S "_law_place") (fnS (stAt 31)) L 300 (.ref 299) [])) → wpAny (model PW w) (A.deeper (envX (S "_law_place") (fnS (stAt 31)) L 300 (.ref 299) [])) (execs (fnB (stAt 31)) (envX (S "_law_place") (fnS (stAt 31)) L 300 (.ref 299) []))
        (retK Q) NoE (up s h₁ tk)) :
    wpAny (model PW w) A (call (.ref 300) [v0]) Q E s :=
  r_enter (binds := [(S "spring", v0)]) (f300 _) (c300 _) R B k₀ W hW (BindsTo.of_eq (by rfl)) (locs (by rfl)) (by rfl) (by rfl) (by rfl) (by decide) fun g L h₁ tk SS => h g L h₁ tk (SS.congr (ml300 v0))
theorem lo300_spring (SS : St w g L (V300 (some v) o1) led h) (q : Q v (up s h tk)) : wpAny M A (eval (.Name (Str.ofString "spring") pos) (envX (S "_law_place") (fnS (stAt 31)) L 300 (.ref 299) [])) Q E (up s h tk) :=
  r_loc (s := up s h tk) SS (by rfl) q (by kernel_rfl) (by kernel_rfl) (by kernel_rfl)
theorem so300_spring (SS : St w g L (V300 o0 o1) led h)
    (q : ∀ h' tk', St w g L (V300 (some v) o1) led h' → (∀ b o, b ≠ L → h.get? b = some o → h'.get? b = some o) → U () (up s h' tk')) : wpAny M A (storeName (envX (S "_law_place") (fnS (stAt 31)) L 300 (.ref 299) []) (Str.ofString "spring") v) U E (up s h tk) :=
  r_set SS (by rfl) q (by kernel_rfl) (by kernel_rfl)
theorem lo300_way (SS : St w g L (V300 o0 (some v)) led h) (q : Q v (up s h tk)) : wpAny M A (eval (.Name (Str.ofString "way") pos) (envX (S "_law_place") (fnS (stAt 31)) L 300 (.ref 299) [])) Q E (up s h tk) :=
  r_loc (s := up s h tk) SS (by rfl) q (by kernel_rfl) (by kernel_rfl) (by kernel_rfl)
theorem so300_way (SS : St w g L (V300 o0 o1) led h)
    (q : ∀ h' tk', St w g L (V300 o0 (some v)) led h' → (∀ b o, b ≠ L → h.get? b = some o → h'.get? b = some o) → U () (up s h' tk')) : wpAny M A (storeName (envX (S "_law_place") (fnS (stAt 31)) L 300 (.ref 299) []) (Str.ofString "way") v) U E (up s h tk) :=
  r_set SS (by rfl) q (by kernel_rfl) (by kernel_rfl)
theorem lo300_law_drop (SS : St w g L l led h) (q : Q (.ref 279) (up s h tk)) : wpAny M A (eval (.Name (Str.ofString "_law_drop") pos) (envX (S "_law_place") (fnS (stAt 31)) L 300 (.ref 299) [])) Q E (up s h tk) :=
  r_glob (s := up s h tk) SS (g_law_drop _) q (by kernel_rfl) (by kernel_rfl) (by kernel_rfl)
theorem ca300_law_drop (SS : St w g L l led h)
    (he : starEach (e :: rest) (envX (S "_law_place") (fnS (stAt 31)) L 300 (.ref 299) []) = (false, eval e (envX (S "_law_place") (fnS (stAt 31)) L 300 (.ref 299) [])) :: starEach rest (envX (S "_law_place") (fnS (stAt 31)) L 300 (.ref 299) [])) (hplain : (backTo pos (starEach rest (envX (S "_law_place") (fnS (stAt 31)) L 300 (.ref 299) []))).any (·.1) = false)
    (q : wpAny (model PW w) A (spliced (backTo pos (starEach (e :: rest) (envX (S "_law_place") (fnS (stAt 31)) L 300 (.ref 299) [])))) (fun vs s₁ => (KK w.params).In s₁.heap ∧ wpAny (model PW w) A (call (.ref 279) vs) Q E s₁) E (up s h tk))
    (heq : eval (.Call (.Name (Str.ofString "_law_drop") xp) (e :: rest) [] pos) (envX (S "_law_place") (fnS (stAt 31)) L 300 (.ref 299) []) = (do callWith pos (← eval (.Name (Str.ofString "_law_drop") xp) (envX (S "_law_place") (fnS (stAt 31)) L 300 (.ref 299) [])) [] (backTo pos (starEach (e :: rest) (envX (S "_law_place") (fnS (stAt 31)) L 300 (.ref 299) []))) (backToKw pos (keywordEach [] (envX (S "_law_place") (fnS (stAt 31)) L 300 (.ref 299) []))))) :
    wpAny (model PW w) A (eval (.Call (.Name (Str.ofString "_law_drop") xp) (e :: rest) [] pos) (envX (S "_law_place") (fnS (stAt 31)) L 300 (.ref 299) [])) Q E (up s h tk) :=
  r_call (s := up s h tk) SS (g_law_drop _) (kp279 _) (by kernel_rfl) (by kernel_rfl) (by kernel_rfl) he hplain q heq
theorem lo300_law_tree (SS : St w g L l led h) (q : Q (.ref 286) (up s h tk)) : wpAny M A (eval (.Name (Str.ofString "_law_tree") pos) (envX (S "_law_place") (fnS (stAt 31)) L 300 (.ref 299) [])) Q E (up s h tk) :=
  r_glob (s := up s h tk) SS (g_law_tree _) q (by kernel_rfl) (by kernel_rfl) (by kernel_rfl)
theorem ca300_law_tree (SS : St w g L l led h)
    (he : starEach (e :: rest) (envX (S "_law_place") (fnS (stAt 31)) L 300 (.ref 299) []) = (false, eval e (envX (S "_law_place") (fnS (stAt 31)) L 300 (.ref 299) [])) :: starEach rest (envX (S "_law_place") (fnS (stAt 31)) L 300 (.ref 299) [])) (hplain : (backTo pos (starEach rest (envX (S "_law_place") (fnS (stAt 31)) L 300 (.ref 299) []))).any (·.1) = false)
    (q : wpAny (model PW w) A (spliced (backTo pos (starEach (e :: rest) (envX (S "_law_place") (fnS (stAt 31)) L 300 (.ref 299) [])))) (fun vs s₁ => (KK w.params).In s₁.heap ∧ wpAny (model PW w) A (call (.ref 286) vs) Q E s₁) E (up s h tk))
    (heq : eval (.Call (.Name (Str.ofString "_law_tree") xp) (e :: rest) [] pos) (envX (S "_law_place") (fnS (stAt 31)) L 300 (.ref 299) []) = (do callWith pos (← eval (.Name (Str.ofString "_law_tree") xp) (envX (S "_law_place") (fnS (stAt 31)) L 300 (.ref 299) [])) [] (backTo pos (starEach (e :: rest) (envX (S "_law_place") (fnS (stAt 31)) L 300 (.ref 299) []))) (backToKw pos (keywordEach [] (envX (S "_law_place") (fnS (stAt 31)) L 300 (.ref 299) []))))) :
    wpAny (model PW w) A (eval (.Call (.Name (Str.ofString "_law_tree") xp) (e :: rest) [] pos) (envX (S "_law_place") (fnS (stAt 31)) L 300 (.ref 299) [])) Q E (up s h tk) :=
  r_call (s := up s h tk) SS (g_law_tree _) (kp286 _) (by kernel_rfl) (by kernel_rfl) (by kernel_rfl) he hplain q heq
theorem lo300_law_name (SS : St w g L l led h) (q : Q (.ref 293) (up s h tk)) : wpAny M A (eval (.Name (Str.ofString "_law_name") pos) (envX (S "_law_place") (fnS (stAt 31)) L 300 (.ref 299) [])) Q E (up s h tk) :=
  r_glob (s := up s h tk) SS (g_law_name _) q (by kernel_rfl) (by kernel_rfl) (by kernel_rfl)
theorem ca300_law_name (SS : St w g L l led h)
    (he : starEach (e :: rest) (envX (S "_law_place") (fnS (stAt 31)) L 300 (.ref 299) []) = (false, eval e (envX (S "_law_place") (fnS (stAt 31)) L 300 (.ref 299) [])) :: starEach rest (envX (S "_law_place") (fnS (stAt 31)) L 300 (.ref 299) [])) (hplain : (backTo pos (starEach rest (envX (S "_law_place") (fnS (stAt 31)) L 300 (.ref 299) []))).any (·.1) = false)
    (q : wpAny (model PW w) A (spliced (backTo pos (starEach (e :: rest) (envX (S "_law_place") (fnS (stAt 31)) L 300 (.ref 299) [])))) (fun vs s₁ => (KK w.params).In s₁.heap ∧ wpAny (model PW w) A (call (.ref 293) vs) Q E s₁) E (up s h tk))
    (heq : eval (.Call (.Name (Str.ofString "_law_name") xp) (e :: rest) [] pos) (envX (S "_law_place") (fnS (stAt 31)) L 300 (.ref 299) []) = (do callWith pos (← eval (.Name (Str.ofString "_law_name") xp) (envX (S "_law_place") (fnS (stAt 31)) L 300 (.ref 299) [])) [] (backTo pos (starEach (e :: rest) (envX (S "_law_place") (fnS (stAt 31)) L 300 (.ref 299) []))) (backToKw pos (keywordEach [] (envX (S "_law_place") (fnS (stAt 31)) L 300 (.ref 299) []))))) :
    wpAny (model PW w) A (eval (.Call (.Name (Str.ofString "_law_name") xp) (e :: rest) [] pos) (envX (S "_law_place") (fnS (stAt 31)) L 300 (.ref 299) [])) Q E (up s h tk) :=
  r_call (s := up s h tk) SS (g_law_name _) (kp293 _) (by kernel_rfl) (by kernel_rfl) (by kernel_rfl) he hplain q heq
theorem ml312 (v0 v1 : Value) : mp ([(S "spring", v0), (S "deep", v1)].reverse.map fun x => (x.1, some x.2)) = mp (V312 (some v0) (some v1) none none none none none none) := mp_rev [(S "spring", v0), (S "deep", v1)] [S "way", S "inner", S "bound", S "one", S "body", S "worth"] (by kernel_rfl)
theorem en312 {v0 v1 : Value} (R : Room (n + 1) A) (B : Bs w h₀) (k₀ : h₀.StaysIn s.heap) (W : Led) (hW : ∀ p ∈ W, Has s.heap p ∧ h₀.get? p.1 = none)
    (h : ∀ g L h₁ tk, St w g L (V312 (some v0) (some v1) none none none none none none) W h₁ → h₀.StaysIn g → (∀ b o, b ∉ W.map (·.1) → s.heap.get? b = some o → g.get? b = some o) → (∀ b o, g.get? b = some o → s.heap.get? b = some o) →
      s.heap.StaysIn h₁ → Room n (A.deeper (envX (S "_law_drawn") (fnS (stAt 33)) L 312 (.ref 311) [])) → wpAny (model PW w) (A.deeper (envX (S "_law_drawn") (fnS (stAt 33)) L 312 (.ref 311) [])) (execs (fnB (stAt 33)) (envX (S "_law_drawn") (fnS (stAt 33)) L 312 (.ref 311) []))
        (retK Q) NoE (up s h₁ tk)) :
    wpAny (model PW w) A (call (.ref 312) [v0, v1]) Q E s :=
  r_enter (binds := [(S "spring", v0), (S "deep", v1)]) (f312 _) (c312 _) R B k₀ W hW (BindsTo.of_eq (by rfl)) (locs (by rfl)) (by rfl) (by rfl) (by rfl) (by decide) fun g L h₁ tk SS => h g L h₁ tk (SS.congr (ml312 v0 v1))
theorem lo312_spring (SS : St w g L (V312 (some v) o1 o2 o3 o4 o5 o6 o7) led h) (q : Q v (up s h tk)) : wpAny M A (eval (.Name (Str.ofString "spring") pos) (envX (S "_law_drawn") (fnS (stAt 33)) L 312 (.ref 311) [])) Q E (up s h tk) :=
  r_loc (s := up s h tk) SS (by rfl) q (by kernel_rfl) (by kernel_rfl) (by kernel_rfl)
theorem so312_spring (SS : St w g L (V312 o0 o1 o2 o3 o4 o5 o6 o7) led h)
    (q : ∀ h' tk', St w g L (V312 (some v) o1 o2 o3 o4 o5 o6 o7) led h' → (∀ b o, b ≠ L → h.get? b = some o → h'.get? b = some o) → U () (up s h' tk')) : wpAny M A (storeName (envX (S "_law_drawn") (fnS (stAt 33)) L 312 (.ref 311) []) (Str.ofString "spring") v) U E (up s h tk) :=
  r_set SS (by rfl) q (by kernel_rfl) (by kernel_rfl)
theorem lo312_deep (SS : St w g L (V312 o0 (some v) o2 o3 o4 o5 o6 o7) led h) (q : Q v (up s h tk)) : wpAny M A (eval (.Name (Str.ofString "deep") pos) (envX (S "_law_drawn") (fnS (stAt 33)) L 312 (.ref 311) [])) Q E (up s h tk) :=
  r_loc (s := up s h tk) SS (by rfl) q (by kernel_rfl) (by kernel_rfl) (by kernel_rfl)
theorem so312_deep (SS : St w g L (V312 o0 o1 o2 o3 o4 o5 o6 o7) led h)
    (q : ∀ h' tk', St w g L (V312 o0 (some v) o2 o3 o4 o5 o6 o7) led h' → (∀ b o, b ≠ L → h.get? b = some o → h'.get? b = some o) → U () (up s h' tk')) : wpAny M A (storeName (envX (S "_law_drawn") (fnS (stAt 33)) L 312 (.ref 311) []) (Str.ofString "deep") v) U E (up s h tk) :=
  r_set SS (by rfl) q (by kernel_rfl) (by kernel_rfl)
theorem lo312_way (SS : St w g L (V312 o0 o1 (some v) o3 o4 o5 o6 o7) led h) (q : Q v (up s h tk)) : wpAny M A (eval (.Name (Str.ofString "way") pos) (envX (S "_law_drawn") (fnS (stAt 33)) L 312 (.ref 311) [])) Q E (up s h tk) :=
  r_loc (s := up s h tk) SS (by rfl) q (by kernel_rfl) (by kernel_rfl) (by kernel_rfl)
theorem so312_way (SS : St w g L (V312 o0 o1 o2 o3 o4 o5 o6 o7) led h)
    (q : ∀ h' tk', St w g L (V312 o0 o1 (some v) o3 o4 o5 o6 o7) led h' → (∀ b o, b ≠ L → h.get? b = some o → h'.get? b = some o) → U () (up s h' tk')) : wpAny M A (storeName (envX (S "_law_drawn") (fnS (stAt 33)) L 312 (.ref 311) []) (Str.ofString "way") v) U E (up s h tk) :=
  r_set SS (by rfl) q (by kernel_rfl) (by kernel_rfl)
theorem lo312_inner (SS : St w g L (V312 o0 o1 o2 (some v) o4 o5 o6 o7) led h) (q : Q v (up s h tk)) : wpAny M A (eval (.Name (Str.ofString "inner") pos) (envX (S "_law_drawn") (fnS (stAt 33)) L 312 (.ref 311) [])) Q E (up s h tk) :=
  r_loc (s := up s h tk) SS (by rfl) q (by kernel_rfl) (by kernel_rfl) (by kernel_rfl)
theorem so312_inner (SS : St w g L (V312 o0 o1 o2 o3 o4 o5 o6 o7) led h)
    (q : ∀ h' tk', St w g L (V312 o0 o1 o2 (some v) o4 o5 o6 o7) led h' → (∀ b o, b ≠ L → h.get? b = some o → h'.get? b = some o) → U () (up s h' tk')) : wpAny M A (storeName (envX (S "_law_drawn") (fnS (stAt 33)) L 312 (.ref 311) []) (Str.ofString "inner") v) U E (up s h tk) :=
  r_set SS (by rfl) q (by kernel_rfl) (by kernel_rfl)
theorem lo312_bound (SS : St w g L (V312 o0 o1 o2 o3 (some v) o5 o6 o7) led h) (q : Q v (up s h tk)) : wpAny M A (eval (.Name (Str.ofString "bound") pos) (envX (S "_law_drawn") (fnS (stAt 33)) L 312 (.ref 311) [])) Q E (up s h tk) :=
  r_loc (s := up s h tk) SS (by rfl) q (by kernel_rfl) (by kernel_rfl) (by kernel_rfl)
theorem so312_bound (SS : St w g L (V312 o0 o1 o2 o3 o4 o5 o6 o7) led h)
    (q : ∀ h' tk', St w g L (V312 o0 o1 o2 o3 (some v) o5 o6 o7) led h' → (∀ b o, b ≠ L → h.get? b = some o → h'.get? b = some o) → U () (up s h' tk')) : wpAny M A (storeName (envX (S "_law_drawn") (fnS (stAt 33)) L 312 (.ref 311) []) (Str.ofString "bound") v) U E (up s h tk) :=
  r_set SS (by rfl) q (by kernel_rfl) (by kernel_rfl)
theorem lo312_one (SS : St w g L (V312 o0 o1 o2 o3 o4 (some v) o6 o7) led h) (q : Q v (up s h tk)) : wpAny M A (eval (.Name (Str.ofString "one") pos) (envX (S "_law_drawn") (fnS (stAt 33)) L 312 (.ref 311) [])) Q E (up s h tk) :=
  r_loc (s := up s h tk) SS (by rfl) q (by kernel_rfl) (by kernel_rfl) (by kernel_rfl)
theorem so312_one (SS : St w g L (V312 o0 o1 o2 o3 o4 o5 o6 o7) led h)
    (q : ∀ h' tk', St w g L (V312 o0 o1 o2 o3 o4 (some v) o6 o7) led h' → (∀ b o, b ≠ L → h.get? b = some o → h'.get? b = some o) → U () (up s h' tk')) : wpAny M A (storeName (envX (S "_law_drawn") (fnS (stAt 33)) L 312 (.ref 311) []) (Str.ofString "one") v) U E (up s h tk) :=
  r_set SS (by rfl) q (by kernel_rfl) (by kernel_rfl)
theorem lo312_body (SS : St w g L (V312 o0 o1 o2 o3 o4 o5 (some v) o7) led h) (q : Q v (up s h tk)) : wpAny M A (eval (.Name (Str.ofString "body") pos) (envX (S "_law_drawn") (fnS (stAt 33)) L 312 (.ref 311) [])) Q E (up s h tk) :=
  r_loc (s := up s h tk) SS (by rfl) q (by kernel_rfl) (by kernel_rfl) (by kernel_rfl)
theorem so312_body (SS : St w g L (V312 o0 o1 o2 o3 o4 o5 o6 o7) led h)
    (q : ∀ h' tk', St w g L (V312 o0 o1 o2 o3 o4 o5 (some v) o7) led h' → (∀ b o, b ≠ L → h.get? b = some o → h'.get? b = some o) → U () (up s h' tk')) : wpAny M A (storeName (envX (S "_law_drawn") (fnS (stAt 33)) L 312 (.ref 311) []) (Str.ofString "body") v) U E (up s h tk) :=
  r_set SS (by rfl) q (by kernel_rfl) (by kernel_rfl)
theorem lo312_worth (SS : St w g L (V312 o0 o1 o2 o3 o4 o5 o6 (some v)) led h) (q : Q v (up s h tk)) : wpAny M A (eval (.Name (Str.ofString "worth") pos) (envX (S "_law_drawn") (fnS (stAt 33)) L 312 (.ref 311) [])) Q E (up s h tk) :=
  r_loc (s := up s h tk) SS (by rfl) q (by kernel_rfl) (by kernel_rfl) (by kernel_rfl)
theorem so312_worth (SS : St w g L (V312 o0 o1 o2 o3 o4 o5 o6 o7) led h)
    (q : ∀ h' tk', St w g L (V312 o0 o1 o2 o3 o4 o5 o6 (some v)) led h' → (∀ b o, b ≠ L → h.get? b = some o → h'.get? b = some o) → U () (up s h' tk')) : wpAny M A (storeName (envX (S "_law_drawn") (fnS (stAt 33)) L 312 (.ref 311) []) (Str.ofString "worth") v) U E (up s h tk) :=
  r_set SS (by rfl) q (by kernel_rfl) (by kernel_rfl)
theorem lo312_law_drop (SS : St w g L l led h) (q : Q (.ref 279) (up s h tk)) : wpAny M A (eval (.Name (Str.ofString "_law_drop") pos) (envX (S "_law_drawn") (fnS (stAt 33)) L 312 (.ref 311) [])) Q E (up s h tk) :=
  r_glob (s := up s h tk) SS (g_law_drop _) q (by kernel_rfl) (by kernel_rfl) (by kernel_rfl)
theorem ca312_law_drop (SS : St w g L l led h)
    (he : starEach (e :: rest) (envX (S "_law_drawn") (fnS (stAt 33)) L 312 (.ref 311) []) = (false, eval e (envX (S "_law_drawn") (fnS (stAt 33)) L 312 (.ref 311) [])) :: starEach rest (envX (S "_law_drawn") (fnS (stAt 33)) L 312 (.ref 311) [])) (hplain : (backTo pos (starEach rest (envX (S "_law_drawn") (fnS (stAt 33)) L 312 (.ref 311) []))).any (·.1) = false)
    (q : wpAny (model PW w) A (spliced (backTo pos (starEach (e :: rest) (envX (S "_law_drawn") (fnS (stAt 33)) L 312 (.ref 311) [])))) (fun vs s₁ => (KK w.params).In s₁.heap ∧ wpAny (model PW w) A (call (.ref 279) vs) Q E s₁) E (up s h tk))
    (heq : eval (.Call (.Name (Str.ofString "_law_drop") xp) (e :: rest) [] pos) (envX (S "_law_drawn") (fnS (stAt 33)) L 312 (.ref 311) []) = (do callWith pos (← eval (.Name (Str.ofString "_law_drop") xp) (envX (S "_law_drawn") (fnS (stAt 33)) L 312 (.ref 311) [])) [] (backTo pos (starEach (e :: rest) (envX (S "_law_drawn") (fnS (stAt 33)) L 312 (.ref 311) []))) (backToKw pos (keywordEach [] (envX (S "_law_drawn") (fnS (stAt 33)) L 312 (.ref 311) []))))) :
    wpAny (model PW w) A (eval (.Call (.Name (Str.ofString "_law_drop") xp) (e :: rest) [] pos) (envX (S "_law_drawn") (fnS (stAt 33)) L 312 (.ref 311) [])) Q E (up s h tk) :=
  r_call (s := up s h tk) SS (g_law_drop _) (kp279 _) (by kernel_rfl) (by kernel_rfl) (by kernel_rfl) he hplain q heq
theorem lo312_law_name (SS : St w g L l led h) (q : Q (.ref 293) (up s h tk)) : wpAny M A (eval (.Name (Str.ofString "_law_name") pos) (envX (S "_law_drawn") (fnS (stAt 33)) L 312 (.ref 311) [])) Q E (up s h tk) :=
  r_glob (s := up s h tk) SS (g_law_name _) q (by kernel_rfl) (by kernel_rfl) (by kernel_rfl)
theorem ca312_law_name (SS : St w g L l led h)
    (he : starEach (e :: rest) (envX (S "_law_drawn") (fnS (stAt 33)) L 312 (.ref 311) []) = (false, eval e (envX (S "_law_drawn") (fnS (stAt 33)) L 312 (.ref 311) [])) :: starEach rest (envX (S "_law_drawn") (fnS (stAt 33)) L 312 (.ref 311) [])) (hplain : (backTo pos (starEach rest (envX (S "_law_drawn") (fnS (stAt 33)) L 312 (.ref 311) []))).any (·.1) = false)
    (q : wpAny (model PW w) A (spliced (backTo pos (starEach (e :: rest) (envX (S "_law_drawn") (fnS (stAt 33)) L 312 (.ref 311) [])))) (fun vs s₁ => (KK w.params).In s₁.heap ∧ wpAny (model PW w) A (call (.ref 293) vs) Q E s₁) E (up s h tk))
    (heq : eval (.Call (.Name (Str.ofString "_law_name") xp) (e :: rest) [] pos) (envX (S "_law_drawn") (fnS (stAt 33)) L 312 (.ref 311) []) = (do callWith pos (← eval (.Name (Str.ofString "_law_name") xp) (envX (S "_law_drawn") (fnS (stAt 33)) L 312 (.ref 311) [])) [] (backTo pos (starEach (e :: rest) (envX (S "_law_drawn") (fnS (stAt 33)) L 312 (.ref 311) []))) (backToKw pos (keywordEach [] (envX (S "_law_drawn") (fnS (stAt 33)) L 312 (.ref 311) []))))) :
    wpAny (model PW w) A (eval (.Call (.Name (Str.ofString "_law_name") xp) (e :: rest) [] pos) (envX (S "_law_drawn") (fnS (stAt 33)) L 312 (.ref 311) [])) Q E (up s h tk) :=
  r_call (s := up s h tk) SS (g_law_name _) (kp293 _) (by kernel_rfl) (by kernel_rfl) (by kernel_rfl) he hplain q heq
theorem lo312_law_tree (SS : St w g L l led h) (q : Q (.ref 286) (up s h tk)) : wpAny M A (eval (.Name (Str.ofString "_law_tree") pos) (envX (S "_law_drawn") (fnS (stAt 33)) L 312 (.ref 311) [])) Q E (up s h tk) :=
  r_glob (s := up s h tk) SS (g_law_tree _) q (by kernel_rfl) (by kernel_rfl) (by kernel_rfl)
theorem ca312_law_tree (SS : St w g L l led h)
    (he : starEach (e :: rest) (envX (S "_law_drawn") (fnS (stAt 33)) L 312 (.ref 311) []) = (false, eval e (envX (S "_law_drawn") (fnS (stAt 33)) L 312 (.ref 311) [])) :: starEach rest (envX (S "_law_drawn") (fnS (stAt 33)) L 312 (.ref 311) [])) (hplain : (backTo pos (starEach rest (envX (S "_law_drawn") (fnS (stAt 33)) L 312 (.ref 311) []))).any (·.1) = false)
    (q : wpAny (model PW w) A (spliced (backTo pos (starEach (e :: rest) (envX (S "_law_drawn") (fnS (stAt 33)) L 312 (.ref 311) [])))) (fun vs s₁ => (KK w.params).In s₁.heap ∧ wpAny (model PW w) A (call (.ref 286) vs) Q E s₁) E (up s h tk))
    (heq : eval (.Call (.Name (Str.ofString "_law_tree") xp) (e :: rest) [] pos) (envX (S "_law_drawn") (fnS (stAt 33)) L 312 (.ref 311) []) = (do callWith pos (← eval (.Name (Str.ofString "_law_tree") xp) (envX (S "_law_drawn") (fnS (stAt 33)) L 312 (.ref 311) [])) [] (backTo pos (starEach (e :: rest) (envX (S "_law_drawn") (fnS (stAt 33)) L 312 (.ref 311) []))) (backToKw pos (keywordEach [] (envX (S "_law_drawn") (fnS (stAt 33)) L 312 (.ref 311) []))))) :
    wpAny (model PW w) A (eval (.Call (.Name (Str.ofString "_law_tree") xp) (e :: rest) [] pos) (envX (S "_law_drawn") (fnS (stAt 33)) L 312 (.ref 311) [])) Q E (up s h tk) :=
  r_call (s := up s h tk) SS (g_law_tree _) (kp286 _) (by kernel_rfl) (by kernel_rfl) (by kernel_rfl) he hplain q heq
theorem lo312_law_place (SS : St w g L l led h) (q : Q (.ref 300) (up s h tk)) : wpAny M A (eval (.Name (Str.ofString "_law_place") pos) (envX (S "_law_drawn") (fnS (stAt 33)) L 312 (.ref 311) [])) Q E (up s h tk) :=
  r_glob (s := up s h tk) SS (g_law_place _) q (by kernel_rfl) (by kernel_rfl) (by kernel_rfl)
theorem ca312_law_place (SS : St w g L l led h)
    (he : starEach (e :: rest) (envX (S "_law_drawn") (fnS (stAt 33)) L 312 (.ref 311) []) = (false, eval e (envX (S "_law_drawn") (fnS (stAt 33)) L 312 (.ref 311) [])) :: starEach rest (envX (S "_law_drawn") (fnS (stAt 33)) L 312 (.ref 311) [])) (hplain : (backTo pos (starEach rest (envX (S "_law_drawn") (fnS (stAt 33)) L 312 (.ref 311) []))).any (·.1) = false)
    (q : wpAny (model PW w) A (spliced (backTo pos (starEach (e :: rest) (envX (S "_law_drawn") (fnS (stAt 33)) L 312 (.ref 311) [])))) (fun vs s₁ => (KK w.params).In s₁.heap ∧ wpAny (model PW w) A (call (.ref 300) vs) Q E s₁) E (up s h tk))
    (heq : eval (.Call (.Name (Str.ofString "_law_place") xp) (e :: rest) [] pos) (envX (S "_law_drawn") (fnS (stAt 33)) L 312 (.ref 311) []) = (do callWith pos (← eval (.Name (Str.ofString "_law_place") xp) (envX (S "_law_drawn") (fnS (stAt 33)) L 312 (.ref 311) [])) [] (backTo pos (starEach (e :: rest) (envX (S "_law_drawn") (fnS (stAt 33)) L 312 (.ref 311) []))) (backToKw pos (keywordEach [] (envX (S "_law_drawn") (fnS (stAt 33)) L 312 (.ref 311) []))))) :
    wpAny (model PW w) A (eval (.Call (.Name (Str.ofString "_law_place") xp) (e :: rest) [] pos) (envX (S "_law_drawn") (fnS (stAt 33)) L 312 (.ref 311) [])) Q E (up s h tk) :=
  r_call (s := up s h tk) SS (g_law_place _) (kp300 _) (by kernel_rfl) (by kernel_rfl) (by kernel_rfl) he hplain q heq
theorem lo312_law_drawn (SS : St w g L l led h) (q : Q (.ref 312) (up s h tk)) : wpAny M A (eval (.Name (Str.ofString "_law_drawn") pos) (envX (S "_law_drawn") (fnS (stAt 33)) L 312 (.ref 311) [])) Q E (up s h tk) :=
  r_glob (s := up s h tk) SS (g_law_drawn _) q (by kernel_rfl) (by kernel_rfl) (by kernel_rfl)
theorem ca312_law_drawn (SS : St w g L l led h)
    (he : starEach (e :: rest) (envX (S "_law_drawn") (fnS (stAt 33)) L 312 (.ref 311) []) = (false, eval e (envX (S "_law_drawn") (fnS (stAt 33)) L 312 (.ref 311) [])) :: starEach rest (envX (S "_law_drawn") (fnS (stAt 33)) L 312 (.ref 311) [])) (hplain : (backTo pos (starEach rest (envX (S "_law_drawn") (fnS (stAt 33)) L 312 (.ref 311) []))).any (·.1) = false)
    (q : wpAny (model PW w) A (spliced (backTo pos (starEach (e :: rest) (envX (S "_law_drawn") (fnS (stAt 33)) L 312 (.ref 311) [])))) (fun vs s₁ => (KK w.params).In s₁.heap ∧ wpAny (model PW w) A (call (.ref 312) vs) Q E s₁) E (up s h tk))
    (heq : eval (.Call (.Name (Str.ofString "_law_drawn") xp) (e :: rest) [] pos) (envX (S "_law_drawn") (fnS (stAt 33)) L 312 (.ref 311) []) = (do callWith pos (← eval (.Name (Str.ofString "_law_drawn") xp) (envX (S "_law_drawn") (fnS (stAt 33)) L 312 (.ref 311) [])) [] (backTo pos (starEach (e :: rest) (envX (S "_law_drawn") (fnS (stAt 33)) L 312 (.ref 311) []))) (backToKw pos (keywordEach [] (envX (S "_law_drawn") (fnS (stAt 33)) L 312 (.ref 311) []))))) :
    wpAny (model PW w) A (eval (.Call (.Name (Str.ofString "_law_drawn") xp) (e :: rest) [] pos) (envX (S "_law_drawn") (fnS (stAt 33)) L 312 (.ref 311) [])) Q E (up s h tk) :=
  r_call (s := up s h tk) SS (g_law_drawn _) (kp312 _) (by kernel_rfl) (by kernel_rfl) (by kernel_rfl) he hplain q heq
theorem lo312_law_some (SS : St w g L l led h) (q : Q (.ref 305) (up s h tk)) : wpAny M A (eval (.Name (Str.ofString "_law_some") pos) (envX (S "_law_drawn") (fnS (stAt 33)) L 312 (.ref 311) [])) Q E (up s h tk) :=
  r_glob (s := up s h tk) SS (g_law_some _) q (by kernel_rfl) (by kernel_rfl) (by kernel_rfl)
theorem ca312_law_some (SS : St w g L l led h)
    (he : starEach (e :: rest) (envX (S "_law_drawn") (fnS (stAt 33)) L 312 (.ref 311) []) = (false, eval e (envX (S "_law_drawn") (fnS (stAt 33)) L 312 (.ref 311) [])) :: starEach rest (envX (S "_law_drawn") (fnS (stAt 33)) L 312 (.ref 311) [])) (hplain : (backTo pos (starEach rest (envX (S "_law_drawn") (fnS (stAt 33)) L 312 (.ref 311) []))).any (·.1) = false)
    (q : wpAny (model PW w) A (spliced (backTo pos (starEach (e :: rest) (envX (S "_law_drawn") (fnS (stAt 33)) L 312 (.ref 311) [])))) (fun vs s₁ => (KK w.params).In s₁.heap ∧ wpAny (model PW w) A (call (.ref 305) vs) Q E s₁) E (up s h tk))
    (heq : eval (.Call (.Name (Str.ofString "_law_some") xp) (e :: rest) [] pos) (envX (S "_law_drawn") (fnS (stAt 33)) L 312 (.ref 311) []) = (do callWith pos (← eval (.Name (Str.ofString "_law_some") xp) (envX (S "_law_drawn") (fnS (stAt 33)) L 312 (.ref 311) [])) [] (backTo pos (starEach (e :: rest) (envX (S "_law_drawn") (fnS (stAt 33)) L 312 (.ref 311) []))) (backToKw pos (keywordEach [] (envX (S "_law_drawn") (fnS (stAt 33)) L 312 (.ref 311) []))))) :
    wpAny (model PW w) A (eval (.Call (.Name (Str.ofString "_law_some") xp) (e :: rest) [] pos) (envX (S "_law_drawn") (fnS (stAt 33)) L 312 (.ref 311) [])) Q E (up s h tk) :=
  r_call (s := up s h tk) SS (g_law_some _) (kp305 _) (by kernel_rfl) (by kernel_rfl) (by kernel_rfl) he hplain q heq
theorem ml317 (v0 : Value) : mp ([(S "place", v0)].reverse.map fun x => (x.1, some x.2)) = mp (V317 (some v0)) := mp_rev [(S "place", v0)] [] (by kernel_rfl)
theorem en317 {v0 : Value} (R : Room (n + 1) A) (B : Bs w h₀) (k₀ : h₀.StaysIn s.heap) (W : Led) (hW : ∀ p ∈ W, Has s.heap p ∧ h₀.get? p.1 = none)
    (h : ∀ g L h₁ tk, St w g L (V317 (some v0)) W h₁ → h₀.StaysIn g → (∀ b o, b ∉ W.map (·.1) → s.heap.get? b = some o → g.get? b = some o) → (∀ b o, g.get? b = some o → s.heap.get? b = some o) →
      s.heap.StaysIn h₁ → Room n (A.deeper (envX (S "_law_targets") (fnS (stAt 34)) L 317 (.ref 316) [])) → wpAny (model PW w) (A.deeper (envX (S "_law_targets") (fnS (stAt 34)) L 317 (.ref 316) [])) (execs (fnB (stAt 34)) (envX (S "_law_targets") (fnS (stAt 34)) L 317 (.ref 316) []))
        (retK Q) NoE (up s h₁ tk)) :
    wpAny (model PW w) A (call (.ref 317) [v0]) Q E s :=
  r_enter (binds := [(S "place", v0)]) (f317 _) (c317 _) R B k₀ W hW (BindsTo.of_eq (by rfl)) (locs (by rfl)) (by rfl) (by rfl) (by rfl) (by decide) fun g L h₁ tk SS => h g L h₁ tk (SS.congr (ml317 v0))
theorem lo317_place (SS : St w g L (V317 (some v)) led h) (q : Q v (up s h tk)) : wpAny M A (eval (.Name (Str.ofString "place") pos) (envX (S "_law_targets") (fnS (stAt 34)) L 317 (.ref 316) [])) Q E (up s h tk) :=
  r_loc (s := up s h tk) SS (by rfl) q (by kernel_rfl) (by kernel_rfl) (by kernel_rfl)
theorem so317_place (SS : St w g L (V317 o0) led h)
    (q : ∀ h' tk', St w g L (V317 (some v)) led h' → (∀ b o, b ≠ L → h.get? b = some o → h'.get? b = some o) → U () (up s h' tk')) : wpAny M A (storeName (envX (S "_law_targets") (fnS (stAt 34)) L 317 (.ref 316) []) (Str.ofString "place") v) U E (up s h tk) :=
  r_set SS (by rfl) q (by kernel_rfl) (by kernel_rfl)
theorem lo317_law_targets (SS : St w g L l led h) (q : Q (.ref 317) (up s h tk)) : wpAny M A (eval (.Name (Str.ofString "_law_targets") pos) (envX (S "_law_targets") (fnS (stAt 34)) L 317 (.ref 316) [])) Q E (up s h tk) :=
  r_glob (s := up s h tk) SS (g_law_targets _) q (by kernel_rfl) (by kernel_rfl) (by kernel_rfl)
theorem ca317_law_targets (SS : St w g L l led h)
    (he : starEach (e :: rest) (envX (S "_law_targets") (fnS (stAt 34)) L 317 (.ref 316) []) = (false, eval e (envX (S "_law_targets") (fnS (stAt 34)) L 317 (.ref 316) [])) :: starEach rest (envX (S "_law_targets") (fnS (stAt 34)) L 317 (.ref 316) [])) (hplain : (backTo pos (starEach rest (envX (S "_law_targets") (fnS (stAt 34)) L 317 (.ref 316) []))).any (·.1) = false)
    (q : wpAny (model PW w) A (spliced (backTo pos (starEach (e :: rest) (envX (S "_law_targets") (fnS (stAt 34)) L 317 (.ref 316) [])))) (fun vs s₁ => (KK w.params).In s₁.heap ∧ wpAny (model PW w) A (call (.ref 317) vs) Q E s₁) E (up s h tk))
    (heq : eval (.Call (.Name (Str.ofString "_law_targets") xp) (e :: rest) [] pos) (envX (S "_law_targets") (fnS (stAt 34)) L 317 (.ref 316) []) = (do callWith pos (← eval (.Name (Str.ofString "_law_targets") xp) (envX (S "_law_targets") (fnS (stAt 34)) L 317 (.ref 316) [])) [] (backTo pos (starEach (e :: rest) (envX (S "_law_targets") (fnS (stAt 34)) L 317 (.ref 316) []))) (backToKw pos (keywordEach [] (envX (S "_law_targets") (fnS (stAt 34)) L 317 (.ref 316) []))))) :
    wpAny (model PW w) A (eval (.Call (.Name (Str.ofString "_law_targets") xp) (e :: rest) [] pos) (envX (S "_law_targets") (fnS (stAt 34)) L 317 (.ref 316) [])) Q E (up s h tk) :=
  r_call (s := up s h tk) SS (g_law_targets _) (kp317 _) (by kernel_rfl) (by kernel_rfl) (by kernel_rfl) he hplain q heq
theorem ml324 (v0 v1 : Value) : mp ([(S "tree", v0), (S "found", v1)].reverse.map fun x => (x.1, some x.2)) = mp (V324 (some v0) (some v1) none none none none) := mp_rev [(S "tree", v0), (S "found", v1)] [S "head", S "parts", S "inner", S "part"] (by kernel_rfl)
theorem en324 {v0 v1 : Value} (R : Room (n + 1) A) (B : Bs w h₀) (k₀ : h₀.StaysIn s.heap) (W : Led) (hW : ∀ p ∈ W, Has s.heap p ∧ h₀.get? p.1 = none)
    (h : ∀ g L h₁ tk, St w g L (V324 (some v0) (some v1) none none none none) W h₁ → h₀.StaysIn g → (∀ b o, b ∉ W.map (·.1) → s.heap.get? b = some o → g.get? b = some o) → (∀ b o, g.get? b = some o → s.heap.get? b = some o) →
      s.heap.StaysIn h₁ → Room n (A.deeper (envX (S "_law_walk") (fnS (stAt 35)) L 324 (.ref 323) [])) → wpAny (model PW w) (A.deeper (envX (S "_law_walk") (fnS (stAt 35)) L 324 (.ref 323) [])) (execs (fnB (stAt 35)) (envX (S "_law_walk") (fnS (stAt 35)) L 324 (.ref 323) []))
        (retK Q) NoE (up s h₁ tk)) :
    wpAny (model PW w) A (call (.ref 324) [v0, v1]) Q E s :=
  r_enter (binds := [(S "tree", v0), (S "found", v1)]) (f324 _) (c324 _) R B k₀ W hW (BindsTo.of_eq (by rfl)) (locs (by rfl)) (by rfl) (by rfl) (by rfl) (by decide) fun g L h₁ tk SS => h g L h₁ tk (SS.congr (ml324 v0 v1))
theorem lo324_tree (SS : St w g L (V324 (some v) o1 o2 o3 o4 o5) led h) (q : Q v (up s h tk)) : wpAny M A (eval (.Name (Str.ofString "tree") pos) (envX (S "_law_walk") (fnS (stAt 35)) L 324 (.ref 323) [])) Q E (up s h tk) :=
  r_loc (s := up s h tk) SS (by rfl) q (by kernel_rfl) (by kernel_rfl) (by kernel_rfl)
theorem so324_tree (SS : St w g L (V324 o0 o1 o2 o3 o4 o5) led h)
    (q : ∀ h' tk', St w g L (V324 (some v) o1 o2 o3 o4 o5) led h' → (∀ b o, b ≠ L → h.get? b = some o → h'.get? b = some o) → U () (up s h' tk')) : wpAny M A (storeName (envX (S "_law_walk") (fnS (stAt 35)) L 324 (.ref 323) []) (Str.ofString "tree") v) U E (up s h tk) :=
  r_set SS (by rfl) q (by kernel_rfl) (by kernel_rfl)
theorem lo324_found (SS : St w g L (V324 o0 (some v) o2 o3 o4 o5) led h) (q : Q v (up s h tk)) : wpAny M A (eval (.Name (Str.ofString "found") pos) (envX (S "_law_walk") (fnS (stAt 35)) L 324 (.ref 323) [])) Q E (up s h tk) :=
  r_loc (s := up s h tk) SS (by rfl) q (by kernel_rfl) (by kernel_rfl) (by kernel_rfl)
theorem so324_found (SS : St w g L (V324 o0 o1 o2 o3 o4 o5) led h)
    (q : ∀ h' tk', St w g L (V324 o0 (some v) o2 o3 o4 o5) led h' → (∀ b o, b ≠ L → h.get? b = some o → h'.get? b = some o) → U () (up s h' tk')) : wpAny M A (storeName (envX (S "_law_walk") (fnS (stAt 35)) L 324 (.ref 323) []) (Str.ofString "found") v) U E (up s h tk) :=
  r_set SS (by rfl) q (by kernel_rfl) (by kernel_rfl)
theorem lo324_head (SS : St w g L (V324 o0 o1 (some v) o3 o4 o5) led h) (q : Q v (up s h tk)) : wpAny M A (eval (.Name (Str.ofString "head") pos) (envX (S "_law_walk") (fnS (stAt 35)) L 324 (.ref 323) [])) Q E (up s h tk) :=
  r_loc (s := up s h tk) SS (by rfl) q (by kernel_rfl) (by kernel_rfl) (by kernel_rfl)
theorem so324_head (SS : St w g L (V324 o0 o1 o2 o3 o4 o5) led h)
    (q : ∀ h' tk', St w g L (V324 o0 o1 (some v) o3 o4 o5) led h' → (∀ b o, b ≠ L → h.get? b = some o → h'.get? b = some o) → U () (up s h' tk')) : wpAny M A (storeName (envX (S "_law_walk") (fnS (stAt 35)) L 324 (.ref 323) []) (Str.ofString "head") v) U E (up s h tk) :=
  r_set SS (by rfl) q (by kernel_rfl) (by kernel_rfl)
theorem lo324_parts (SS : St w g L (V324 o0 o1 o2 (some v) o4 o5) led h) (q : Q v (up s h tk)) : wpAny M A (eval (.Name (Str.ofString "parts") pos) (envX (S "_law_walk") (fnS (stAt 35)) L 324 (.ref 323) [])) Q E (up s h tk) :=
  r_loc (s := up s h tk) SS (by rfl) q (by kernel_rfl) (by kernel_rfl) (by kernel_rfl)
theorem so324_parts (SS : St w g L (V324 o0 o1 o2 o3 o4 o5) led h)
    (q : ∀ h' tk', St w g L (V324 o0 o1 o2 (some v) o4 o5) led h' → (∀ b o, b ≠ L → h.get? b = some o → h'.get? b = some o) → U () (up s h' tk')) : wpAny M A (storeName (envX (S "_law_walk") (fnS (stAt 35)) L 324 (.ref 323) []) (Str.ofString "parts") v) U E (up s h tk) :=
  r_set SS (by rfl) q (by kernel_rfl) (by kernel_rfl)
theorem lo324_inner (SS : St w g L (V324 o0 o1 o2 o3 (some v) o5) led h) (q : Q v (up s h tk)) : wpAny M A (eval (.Name (Str.ofString "inner") pos) (envX (S "_law_walk") (fnS (stAt 35)) L 324 (.ref 323) [])) Q E (up s h tk) :=
  r_loc (s := up s h tk) SS (by rfl) q (by kernel_rfl) (by kernel_rfl) (by kernel_rfl)
theorem so324_inner (SS : St w g L (V324 o0 o1 o2 o3 o4 o5) led h)
    (q : ∀ h' tk', St w g L (V324 o0 o1 o2 o3 (some v) o5) led h' → (∀ b o, b ≠ L → h.get? b = some o → h'.get? b = some o) → U () (up s h' tk')) : wpAny M A (storeName (envX (S "_law_walk") (fnS (stAt 35)) L 324 (.ref 323) []) (Str.ofString "inner") v) U E (up s h tk) :=
  r_set SS (by rfl) q (by kernel_rfl) (by kernel_rfl)
theorem lo324_part (SS : St w g L (V324 o0 o1 o2 o3 o4 (some v)) led h) (q : Q v (up s h tk)) : wpAny M A (eval (.Name (Str.ofString "part") pos) (envX (S "_law_walk") (fnS (stAt 35)) L 324 (.ref 323) [])) Q E (up s h tk) :=
  r_loc (s := up s h tk) SS (by rfl) q (by kernel_rfl) (by kernel_rfl) (by kernel_rfl)
theorem so324_part (SS : St w g L (V324 o0 o1 o2 o3 o4 o5) led h)
    (q : ∀ h' tk', St w g L (V324 o0 o1 o2 o3 o4 (some v)) led h' → (∀ b o, b ≠ L → h.get? b = some o → h'.get? b = some o) → U () (up s h' tk')) : wpAny M A (storeName (envX (S "_law_walk") (fnS (stAt 35)) L 324 (.ref 323) []) (Str.ofString "part") v) U E (up s h tk) :=
  r_set SS (by rfl) q (by kernel_rfl) (by kernel_rfl)
theorem lo324_law_note (SS : St w g L l led h) (q : Q (.ref 331) (up s h tk)) : wpAny M A (eval (.Name (Str.ofString "_law_note") pos) (envX (S "_law_walk") (fnS (stAt 35)) L 324 (.ref 323) [])) Q E (up s h tk) :=
  r_glob (s := up s h tk) SS (g_law_note _) q (by kernel_rfl) (by kernel_rfl) (by kernel_rfl)
theorem ca324_law_note (SS : St w g L l led h)
    (he : starEach (e :: rest) (envX (S "_law_walk") (fnS (stAt 35)) L 324 (.ref 323) []) = (false, eval e (envX (S "_law_walk") (fnS (stAt 35)) L 324 (.ref 323) [])) :: starEach rest (envX (S "_law_walk") (fnS (stAt 35)) L 324 (.ref 323) [])) (hplain : (backTo pos (starEach rest (envX (S "_law_walk") (fnS (stAt 35)) L 324 (.ref 323) []))).any (·.1) = false)
    (q : wpAny (model PW w) A (spliced (backTo pos (starEach (e :: rest) (envX (S "_law_walk") (fnS (stAt 35)) L 324 (.ref 323) [])))) (fun vs s₁ => (KK w.params).In s₁.heap ∧ wpAny (model PW w) A (call (.ref 331) vs) Q E s₁) E (up s h tk))
    (heq : eval (.Call (.Name (Str.ofString "_law_note") xp) (e :: rest) [] pos) (envX (S "_law_walk") (fnS (stAt 35)) L 324 (.ref 323) []) = (do callWith pos (← eval (.Name (Str.ofString "_law_note") xp) (envX (S "_law_walk") (fnS (stAt 35)) L 324 (.ref 323) [])) [] (backTo pos (starEach (e :: rest) (envX (S "_law_walk") (fnS (stAt 35)) L 324 (.ref 323) []))) (backToKw pos (keywordEach [] (envX (S "_law_walk") (fnS (stAt 35)) L 324 (.ref 323) []))))) :
    wpAny (model PW w) A (eval (.Call (.Name (Str.ofString "_law_note") xp) (e :: rest) [] pos) (envX (S "_law_walk") (fnS (stAt 35)) L 324 (.ref 323) [])) Q E (up s h tk) :=
  r_call (s := up s h tk) SS (g_law_note _) (kp331 _) (by kernel_rfl) (by kernel_rfl) (by kernel_rfl) he hplain q heq
theorem lo324_law_targets (SS : St w g L l led h) (q : Q (.ref 317) (up s h tk)) : wpAny M A (eval (.Name (Str.ofString "_law_targets") pos) (envX (S "_law_walk") (fnS (stAt 35)) L 324 (.ref 323) [])) Q E (up s h tk) :=
  r_glob (s := up s h tk) SS (g_law_targets _) q (by kernel_rfl) (by kernel_rfl) (by kernel_rfl)
theorem ca324_law_targets (SS : St w g L l led h)
    (he : starEach (e :: rest) (envX (S "_law_walk") (fnS (stAt 35)) L 324 (.ref 323) []) = (false, eval e (envX (S "_law_walk") (fnS (stAt 35)) L 324 (.ref 323) [])) :: starEach rest (envX (S "_law_walk") (fnS (stAt 35)) L 324 (.ref 323) [])) (hplain : (backTo pos (starEach rest (envX (S "_law_walk") (fnS (stAt 35)) L 324 (.ref 323) []))).any (·.1) = false)
    (q : wpAny (model PW w) A (spliced (backTo pos (starEach (e :: rest) (envX (S "_law_walk") (fnS (stAt 35)) L 324 (.ref 323) [])))) (fun vs s₁ => (KK w.params).In s₁.heap ∧ wpAny (model PW w) A (call (.ref 317) vs) Q E s₁) E (up s h tk))
    (heq : eval (.Call (.Name (Str.ofString "_law_targets") xp) (e :: rest) [] pos) (envX (S "_law_walk") (fnS (stAt 35)) L 324 (.ref 323) []) = (do callWith pos (← eval (.Name (Str.ofString "_law_targets") xp) (envX (S "_law_walk") (fnS (stAt 35)) L 324 (.ref 323) [])) [] (backTo pos (starEach (e :: rest) (envX (S "_law_walk") (fnS (stAt 35)) L 324 (.ref 323) []))) (backToKw pos (keywordEach [] (envX (S "_law_walk") (fnS (stAt 35)) L 324 (.ref 323) []))))) :
    wpAny (model PW w) A (eval (.Call (.Name (Str.ofString "_law_targets") xp) (e :: rest) [] pos) (envX (S "_law_walk") (fnS (stAt 35)) L 324 (.ref 323) [])) Q E (up s h tk) :=
  r_call (s := up s h tk) SS (g_law_targets _) (kp317 _) (by kernel_rfl) (by kernel_rfl) (by kernel_rfl) he hplain q heq
theorem lo324_law_walk (SS : St w g L l led h) (q : Q (.ref 324) (up s h tk)) : wpAny M A (eval (.Name (Str.ofString "_law_walk") pos) (envX (S "_law_walk") (fnS (stAt 35)) L 324 (.ref 323) [])) Q E (up s h tk) :=
  r_glob (s := up s h tk) SS (g_law_walk _) q (by kernel_rfl) (by kernel_rfl) (by kernel_rfl)
theorem ca324_law_walk (SS : St w g L l led h)
    (he : starEach (e :: rest) (envX (S "_law_walk") (fnS (stAt 35)) L 324 (.ref 323) []) = (false, eval e (envX (S "_law_walk") (fnS (stAt 35)) L 324 (.ref 323) [])) :: starEach rest (envX (S "_law_walk") (fnS (stAt 35)) L 324 (.ref 323) [])) (hplain : (backTo pos (starEach rest (envX (S "_law_walk") (fnS (stAt 35)) L 324 (.ref 323) []))).any (·.1) = false)
    (q : wpAny (model PW w) A (spliced (backTo pos (starEach (e :: rest) (envX (S "_law_walk") (fnS (stAt 35)) L 324 (.ref 323) [])))) (fun vs s₁ => (KK w.params).In s₁.heap ∧ wpAny (model PW w) A (call (.ref 324) vs) Q E s₁) E (up s h tk))
    (heq : eval (.Call (.Name (Str.ofString "_law_walk") xp) (e :: rest) [] pos) (envX (S "_law_walk") (fnS (stAt 35)) L 324 (.ref 323) []) = (do callWith pos (← eval (.Name (Str.ofString "_law_walk") xp) (envX (S "_law_walk") (fnS (stAt 35)) L 324 (.ref 323) [])) [] (backTo pos (starEach (e :: rest) (envX (S "_law_walk") (fnS (stAt 35)) L 324 (.ref 323) []))) (backToKw pos (keywordEach [] (envX (S "_law_walk") (fnS (stAt 35)) L 324 (.ref 323) []))))) :
    wpAny (model PW w) A (eval (.Call (.Name (Str.ofString "_law_walk") xp) (e :: rest) [] pos) (envX (S "_law_walk") (fnS (stAt 35)) L 324 (.ref 323) [])) Q E (up s h tk) :=
  r_call (s := up s h tk) SS (g_law_walk _) (kp324 _) (by kernel_rfl) (by kernel_rfl) (by kernel_rfl) he hplain q heq
theorem ml331 (v0 v1 : Value) : mp ([(S "some", v0), (S "names", v1)].reverse.map fun x => (x.1, some x.2)) = mp (V202 (some v0) (some v1) none) := mp_rev [(S "some", v0), (S "names", v1)] [S "name"] (by kernel_rfl)
theorem en331 {v0 v1 : Value} (R : Room (n + 1) A) (B : Bs w h₀) (k₀ : h₀.StaysIn s.heap) (W : Led) (hW : ∀ p ∈ W, Has s.heap p ∧ h₀.get? p.1 = none)
    (h : ∀ g L h₁ tk, St w g L (V202 (some v0) (some v1) none) W h₁ → h₀.StaysIn g → (∀ b o, b ∉ W.map (·.1) → s.heap.get? b = some o → g.get? b = some o) → (∀ b o, g.get? b = some o → s.heap.get? b = some o) →
      s.heap.StaysIn h₁ → Room n (A.deeper (envX (S "_law_note") (fnS (stAt 36)) L 331 (.ref 330) [])) → wpAny (model PW w) (A.deeper (envX (S "_law_note") (fnS (stAt 36)) L 331 (.ref 330) [])) (execs (fnB (stAt 36)) (envX (S "_law_note") (fnS (stAt 36)) L 331 (.ref 330) []))
        (retK Q) NoE (up s h₁ tk)) :
    wpAny (model PW w) A (call (.ref 331) [v0, v1]) Q E s :=
  r_enter (binds := [(S "some", v0), (S "names", v1)]) (f331 _) (c331 _) R B k₀ W hW (BindsTo.of_eq (by rfl)) (locs (by rfl)) (by rfl) (by rfl) (by rfl) (by decide) fun g L h₁ tk SS => h g L h₁ tk (SS.congr (ml331 v0 v1))
theorem lo331_some (SS : St w g L (V202 (some v) o1 o2) led h) (q : Q v (up s h tk)) : wpAny M A (eval (.Name (Str.ofString "some") pos) (envX (S "_law_note") (fnS (stAt 36)) L 331 (.ref 330) [])) Q E (up s h tk) :=
  r_loc (s := up s h tk) SS (by rfl) q (by kernel_rfl) (by kernel_rfl) (by kernel_rfl)
theorem so331_some (SS : St w g L (V202 o0 o1 o2) led h)
    (q : ∀ h' tk', St w g L (V202 (some v) o1 o2) led h' → (∀ b o, b ≠ L → h.get? b = some o → h'.get? b = some o) → U () (up s h' tk')) : wpAny M A (storeName (envX (S "_law_note") (fnS (stAt 36)) L 331 (.ref 330) []) (Str.ofString "some") v) U E (up s h tk) :=
  r_set SS (by rfl) q (by kernel_rfl) (by kernel_rfl)
theorem lo331_names (SS : St w g L (V202 o0 (some v) o2) led h) (q : Q v (up s h tk)) : wpAny M A (eval (.Name (Str.ofString "names") pos) (envX (S "_law_note") (fnS (stAt 36)) L 331 (.ref 330) [])) Q E (up s h tk) :=
  r_loc (s := up s h tk) SS (by rfl) q (by kernel_rfl) (by kernel_rfl) (by kernel_rfl)
theorem so331_names (SS : St w g L (V202 o0 o1 o2) led h)
    (q : ∀ h' tk', St w g L (V202 o0 (some v) o2) led h' → (∀ b o, b ≠ L → h.get? b = some o → h'.get? b = some o) → U () (up s h' tk')) : wpAny M A (storeName (envX (S "_law_note") (fnS (stAt 36)) L 331 (.ref 330) []) (Str.ofString "names") v) U E (up s h tk) :=
  r_set SS (by rfl) q (by kernel_rfl) (by kernel_rfl)
theorem lo331_name (SS : St w g L (V202 o0 o1 (some v)) led h) (q : Q v (up s h tk)) : wpAny M A (eval (.Name (Str.ofString "name") pos) (envX (S "_law_note") (fnS (stAt 36)) L 331 (.ref 330) [])) Q E (up s h tk) :=
  r_loc (s := up s h tk) SS (by rfl) q (by kernel_rfl) (by kernel_rfl) (by kernel_rfl)
theorem so331_name (SS : St w g L (V202 o0 o1 o2) led h)
    (q : ∀ h' tk', St w g L (V202 o0 o1 (some v)) led h' → (∀ b o, b ≠ L → h.get? b = some o → h'.get? b = some o) → U () (up s h' tk')) : wpAny M A (storeName (envX (S "_law_note") (fnS (stAt 36)) L 331 (.ref 330) []) (Str.ofString "name") v) U E (up s h tk) :=
  r_set SS (by rfl) q (by kernel_rfl) (by kernel_rfl)
theorem ml341 (v0 : Value) : mp ([(S "script", v0)].reverse.map fun x => (x.1, some x.2)) = mp (V341 (some v0) none none none none none none) := mp_rev [(S "script", v0)] [S "loop", S "k", S "spring", S "tree", S "lists", S "told"] (by kernel_rfl)
theorem en341 {v0 : Value} (R : Room (n + 1) A) (B : Bs w h₀) (k₀ : h₀.StaysIn s.heap) (W : Led) (hW : ∀ p ∈ W, Has s.heap p ∧ h₀.get? p.1 = none)
    (h : ∀ g L h₁ tk, St w g L (V341 (some v0) none none none none none none) W h₁ → h₀.StaysIn g → (∀ b o, b ∉ W.map (·.1) → s.heap.get? b = some o → g.get? b = some o) → (∀ b o, g.get? b = some o → s.heap.get? b = some o) →
      s.heap.StaysIn h₁ → Room n (A.deeper (envX (S "law") (fnS (stAt 38)) L 341 (.ref 340) [])) → wpAny (model PW w) (A.deeper (envX (S "law") (fnS (stAt 38)) L 341 (.ref 340) [])) (execs (fnB (stAt 38)) (envX (S "law") (fnS (stAt 38)) L 341 (.ref 340) []))
        (retK Q) NoE (up s h₁ tk)) :
    wpAny (model PW w) A (call (.ref 341) [v0]) Q E s :=
  r_enter (binds := [(S "script", v0)]) (f341 _) (c341 _) R B k₀ W hW (BindsTo.of_eq (by rfl)) (locs (by rfl)) (by rfl) (by rfl) (by rfl) (by decide) fun g L h₁ tk SS => h g L h₁ tk (SS.congr (ml341 v0))
theorem lo341_script (SS : St w g L (V341 (some v) o1 o2 o3 o4 o5 o6) led h) (q : Q v (up s h tk)) : wpAny M A (eval (.Name (Str.ofString "script") pos) (envX (S "law") (fnS (stAt 38)) L 341 (.ref 340) [])) Q E (up s h tk) :=
  r_loc (s := up s h tk) SS (by rfl) q (by kernel_rfl) (by kernel_rfl) (by kernel_rfl)
theorem so341_script (SS : St w g L (V341 o0 o1 o2 o3 o4 o5 o6) led h)
    (q : ∀ h' tk', St w g L (V341 (some v) o1 o2 o3 o4 o5 o6) led h' → (∀ b o, b ≠ L → h.get? b = some o → h'.get? b = some o) → U () (up s h' tk')) : wpAny M A (storeName (envX (S "law") (fnS (stAt 38)) L 341 (.ref 340) []) (Str.ofString "script") v) U E (up s h tk) :=
  r_set SS (by rfl) q (by kernel_rfl) (by kernel_rfl)
theorem lo341_loop (SS : St w g L (V341 o0 (some v) o2 o3 o4 o5 o6) led h) (q : Q v (up s h tk)) : wpAny M A (eval (.Name (Str.ofString "loop") pos) (envX (S "law") (fnS (stAt 38)) L 341 (.ref 340) [])) Q E (up s h tk) :=
  r_loc (s := up s h tk) SS (by rfl) q (by kernel_rfl) (by kernel_rfl) (by kernel_rfl)
theorem so341_loop (SS : St w g L (V341 o0 o1 o2 o3 o4 o5 o6) led h)
    (q : ∀ h' tk', St w g L (V341 o0 (some v) o2 o3 o4 o5 o6) led h' → (∀ b o, b ≠ L → h.get? b = some o → h'.get? b = some o) → U () (up s h' tk')) : wpAny M A (storeName (envX (S "law") (fnS (stAt 38)) L 341 (.ref 340) []) (Str.ofString "loop") v) U E (up s h tk) :=
  r_set SS (by rfl) q (by kernel_rfl) (by kernel_rfl)
theorem lo341_k (SS : St w g L (V341 o0 o1 (some v) o3 o4 o5 o6) led h) (q : Q v (up s h tk)) : wpAny M A (eval (.Name (Str.ofString "k") pos) (envX (S "law") (fnS (stAt 38)) L 341 (.ref 340) [])) Q E (up s h tk) :=
  r_loc (s := up s h tk) SS (by rfl) q (by kernel_rfl) (by kernel_rfl) (by kernel_rfl)
theorem so341_k (SS : St w g L (V341 o0 o1 o2 o3 o4 o5 o6) led h)
    (q : ∀ h' tk', St w g L (V341 o0 o1 (some v) o3 o4 o5 o6) led h' → (∀ b o, b ≠ L → h.get? b = some o → h'.get? b = some o) → U () (up s h' tk')) : wpAny M A (storeName (envX (S "law") (fnS (stAt 38)) L 341 (.ref 340) []) (Str.ofString "k") v) U E (up s h tk) :=
  r_set SS (by rfl) q (by kernel_rfl) (by kernel_rfl)
theorem lo341_spring (SS : St w g L (V341 o0 o1 o2 (some v) o4 o5 o6) led h) (q : Q v (up s h tk)) : wpAny M A (eval (.Name (Str.ofString "spring") pos) (envX (S "law") (fnS (stAt 38)) L 341 (.ref 340) [])) Q E (up s h tk) :=
  r_loc (s := up s h tk) SS (by rfl) q (by kernel_rfl) (by kernel_rfl) (by kernel_rfl)
theorem so341_spring (SS : St w g L (V341 o0 o1 o2 o3 o4 o5 o6) led h)
    (q : ∀ h' tk', St w g L (V341 o0 o1 o2 (some v) o4 o5 o6) led h' → (∀ b o, b ≠ L → h.get? b = some o → h'.get? b = some o) → U () (up s h' tk')) : wpAny M A (storeName (envX (S "law") (fnS (stAt 38)) L 341 (.ref 340) []) (Str.ofString "spring") v) U E (up s h tk) :=
  r_set SS (by rfl) q (by kernel_rfl) (by kernel_rfl)
theorem lo341_tree (SS : St w g L (V341 o0 o1 o2 o3 (some v) o5 o6) led h) (q : Q v (up s h tk)) : wpAny M A (eval (.Name (Str.ofString "tree") pos) (envX (S "law") (fnS (stAt 38)) L 341 (.ref 340) [])) Q E (up s h tk) :=
  r_loc (s := up s h tk) SS (by rfl) q (by kernel_rfl) (by kernel_rfl) (by kernel_rfl)
theorem so341_tree (SS : St w g L (V341 o0 o1 o2 o3 o4 o5 o6) led h)
    (q : ∀ h' tk', St w g L (V341 o0 o1 o2 o3 (some v) o5 o6) led h' → (∀ b o, b ≠ L → h.get? b = some o → h'.get? b = some o) → U () (up s h' tk')) : wpAny M A (storeName (envX (S "law") (fnS (stAt 38)) L 341 (.ref 340) []) (Str.ofString "tree") v) U E (up s h tk) :=
  r_set SS (by rfl) q (by kernel_rfl) (by kernel_rfl)
theorem lo341_lists (SS : St w g L (V341 o0 o1 o2 o3 o4 (some v) o6) led h) (q : Q v (up s h tk)) : wpAny M A (eval (.Name (Str.ofString "lists") pos) (envX (S "law") (fnS (stAt 38)) L 341 (.ref 340) [])) Q E (up s h tk) :=
  r_loc (s := up s h tk) SS (by rfl) q (by kernel_rfl) (by kernel_rfl) (by kernel_rfl)
theorem so341_lists (SS : St w g L (V341 o0 o1 o2 o3 o4 o5 o6) led h)
    (q : ∀ h' tk', St w g L (V341 o0 o1 o2 o3 o4 (some v) o6) led h' → (∀ b o, b ≠ L → h.get? b = some o → h'.get? b = some o) → U () (up s h' tk')) : wpAny M A (storeName (envX (S "law") (fnS (stAt 38)) L 341 (.ref 340) []) (Str.ofString "lists") v) U E (up s h tk) :=
  r_set SS (by rfl) q (by kernel_rfl) (by kernel_rfl)
theorem lo341_told (SS : St w g L (V341 o0 o1 o2 o3 o4 o5 (some v)) led h) (q : Q v (up s h tk)) : wpAny M A (eval (.Name (Str.ofString "told") pos) (envX (S "law") (fnS (stAt 38)) L 341 (.ref 340) [])) Q E (up s h tk) :=
  r_loc (s := up s h tk) SS (by rfl) q (by kernel_rfl) (by kernel_rfl) (by kernel_rfl)
theorem so341_told (SS : St w g L (V341 o0 o1 o2 o3 o4 o5 o6) led h)
    (q : ∀ h' tk', St w g L (V341 o0 o1 o2 o3 o4 o5 (some v)) led h' → (∀ b o, b ≠ L → h.get? b = some o → h'.get? b = some o) → U () (up s h' tk')) : wpAny M A (storeName (envX (S "law") (fnS (stAt 38)) L 341 (.ref 340) []) (Str.ofString "told") v) U E (up s h tk) :=
  r_set SS (by rfl) q (by kernel_rfl) (by kernel_rfl)
theorem lo341_law_tree (SS : St w g L l led h) (q : Q (.ref 286) (up s h tk)) : wpAny M A (eval (.Name (Str.ofString "_law_tree") pos) (envX (S "law") (fnS (stAt 38)) L 341 (.ref 340) [])) Q E (up s h tk) :=
  r_glob (s := up s h tk) SS (g_law_tree _) q (by kernel_rfl) (by kernel_rfl) (by kernel_rfl)
theorem ca341_law_tree (SS : St w g L l led h)
    (he : starEach (e :: rest) (envX (S "law") (fnS (stAt 38)) L 341 (.ref 340) []) = (false, eval e (envX (S "law") (fnS (stAt 38)) L 341 (.ref 340) [])) :: starEach rest (envX (S "law") (fnS (stAt 38)) L 341 (.ref 340) [])) (hplain : (backTo pos (starEach rest (envX (S "law") (fnS (stAt 38)) L 341 (.ref 340) []))).any (·.1) = false)
    (q : wpAny (model PW w) A (spliced (backTo pos (starEach (e :: rest) (envX (S "law") (fnS (stAt 38)) L 341 (.ref 340) [])))) (fun vs s₁ => (KK w.params).In s₁.heap ∧ wpAny (model PW w) A (call (.ref 286) vs) Q E s₁) E (up s h tk))
    (heq : eval (.Call (.Name (Str.ofString "_law_tree") xp) (e :: rest) [] pos) (envX (S "law") (fnS (stAt 38)) L 341 (.ref 340) []) = (do callWith pos (← eval (.Name (Str.ofString "_law_tree") xp) (envX (S "law") (fnS (stAt 38)) L 341 (.ref 340) [])) [] (backTo pos (starEach (e :: rest) (envX (S "law") (fnS (stAt 38)) L 341 (.ref 340) []))) (backToKw pos (keywordEach [] (envX (S "law") (fnS (stAt 38)) L 341 (.ref 340) []))))) :
    wpAny (model PW w) A (eval (.Call (.Name (Str.ofString "_law_tree") xp) (e :: rest) [] pos) (envX (S "law") (fnS (stAt 38)) L 341 (.ref 340) [])) Q E (up s h tk) :=
  r_call (s := up s h tk) SS (g_law_tree _) (kp286 _) (by kernel_rfl) (by kernel_rfl) (by kernel_rfl) he hplain q heq
theorem lo341_range (SS : St w g L l led h) (q : Q (.type "range") (up s h tk)) : wpAny M A (eval (.Name (Str.ofString "range") pos) (envX (S "law") (fnS (stAt 38)) L 341 (.ref 340) [])) Q E (up s h tk) :=
  r_blt (s := up s h tk) SS (b_range _) (by kernel_rfl) (by decide) q (by kernel_rfl) (by kernel_rfl) (by kernel_rfl)
theorem lo341_max (SS : St w g L l led h) (q : Q (.builtin "max") (up s h tk)) : wpAny M A (eval (.Name (Str.ofString "max") pos) (envX (S "law") (fnS (stAt 38)) L 341 (.ref 340) [])) Q E (up s h tk) :=
  r_blt (s := up s h tk) SS (b_max _) (by kernel_rfl) (by decide) q (by kernel_rfl) (by kernel_rfl) (by kernel_rfl)
theorem lo341_min (SS : St w g L l led h) (q : Q (.builtin "min") (up s h tk)) : wpAny M A (eval (.Name (Str.ofString "min") pos) (envX (S "law") (fnS (stAt 38)) L 341 (.ref 340) [])) Q E (up s h tk) :=
  r_blt (s := up s h tk) SS (b_min _) (by kernel_rfl) (by decide) q (by kernel_rfl) (by kernel_rfl) (by kernel_rfl)
theorem lo341_len (SS : St w g L l led h) (q : Q (.builtin "len") (up s h tk)) : wpAny M A (eval (.Name (Str.ofString "len") pos) (envX (S "law") (fnS (stAt 38)) L 341 (.ref 340) [])) Q E (up s h tk) :=
  r_blt (s := up s h tk) SS (b_len _) (by kernel_rfl) (by decide) q (by kernel_rfl) (by kernel_rfl) (by kernel_rfl)
theorem lo341_law_spring (SS : St w g L l led h) (q : Q (.ref 272) (up s h tk)) : wpAny M A (eval (.Name (Str.ofString "_law_spring") pos) (envX (S "law") (fnS (stAt 38)) L 341 (.ref 340) [])) Q E (up s h tk) :=
  r_glob (s := up s h tk) SS (g_law_spring _) q (by kernel_rfl) (by kernel_rfl) (by kernel_rfl)
theorem ca341_law_spring (SS : St w g L l led h)
    (he : starEach (e :: rest) (envX (S "law") (fnS (stAt 38)) L 341 (.ref 340) []) = (false, eval e (envX (S "law") (fnS (stAt 38)) L 341 (.ref 340) [])) :: starEach rest (envX (S "law") (fnS (stAt 38)) L 341 (.ref 340) [])) (hplain : (backTo pos (starEach rest (envX (S "law") (fnS (stAt 38)) L 341 (.ref 340) []))).any (·.1) = false)
    (q : wpAny (model PW w) A (spliced (backTo pos (starEach (e :: rest) (envX (S "law") (fnS (stAt 38)) L 341 (.ref 340) [])))) (fun vs s₁ => (KK w.params).In s₁.heap ∧ wpAny (model PW w) A (call (.ref 272) vs) Q E s₁) E (up s h tk))
    (heq : eval (.Call (.Name (Str.ofString "_law_spring") xp) (e :: rest) [] pos) (envX (S "law") (fnS (stAt 38)) L 341 (.ref 340) []) = (do callWith pos (← eval (.Name (Str.ofString "_law_spring") xp) (envX (S "law") (fnS (stAt 38)) L 341 (.ref 340) [])) [] (backTo pos (starEach (e :: rest) (envX (S "law") (fnS (stAt 38)) L 341 (.ref 340) []))) (backToKw pos (keywordEach [] (envX (S "law") (fnS (stAt 38)) L 341 (.ref 340) []))))) :
    wpAny (model PW w) A (eval (.Call (.Name (Str.ofString "_law_spring") xp) (e :: rest) [] pos) (envX (S "law") (fnS (stAt 38)) L 341 (.ref 340) [])) Q E (up s h tk) :=
  r_call (s := up s h tk) SS (g_law_spring _) (kp272 _) (by kernel_rfl) (by kernel_rfl) (by kernel_rfl) he hplain q heq
theorem lo341_law_some (SS : St w g L l led h) (q : Q (.ref 305) (up s h tk)) : wpAny M A (eval (.Name (Str.ofString "_law_some") pos) (envX (S "law") (fnS (stAt 38)) L 341 (.ref 340) [])) Q E (up s h tk) :=
  r_glob (s := up s h tk) SS (g_law_some _) q (by kernel_rfl) (by kernel_rfl) (by kernel_rfl)
theorem ca341_law_some (SS : St w g L l led h)
    (he : starEach (e :: rest) (envX (S "law") (fnS (stAt 38)) L 341 (.ref 340) []) = (false, eval e (envX (S "law") (fnS (stAt 38)) L 341 (.ref 340) [])) :: starEach rest (envX (S "law") (fnS (stAt 38)) L 341 (.ref 340) [])) (hplain : (backTo pos (starEach rest (envX (S "law") (fnS (stAt 38)) L 341 (.ref 340) []))).any (·.1) = false)
    (q : wpAny (model PW w) A (spliced (backTo pos (starEach (e :: rest) (envX (S "law") (fnS (stAt 38)) L 341 (.ref 340) [])))) (fun vs s₁ => (KK w.params).In s₁.heap ∧ wpAny (model PW w) A (call (.ref 305) vs) Q E s₁) E (up s h tk))
    (heq : eval (.Call (.Name (Str.ofString "_law_some") xp) (e :: rest) [] pos) (envX (S "law") (fnS (stAt 38)) L 341 (.ref 340) []) = (do callWith pos (← eval (.Name (Str.ofString "_law_some") xp) (envX (S "law") (fnS (stAt 38)) L 341 (.ref 340) [])) [] (backTo pos (starEach (e :: rest) (envX (S "law") (fnS (stAt 38)) L 341 (.ref 340) []))) (backToKw pos (keywordEach [] (envX (S "law") (fnS (stAt 38)) L 341 (.ref 340) []))))) :
    wpAny (model PW w) A (eval (.Call (.Name (Str.ofString "_law_some") xp) (e :: rest) [] pos) (envX (S "law") (fnS (stAt 38)) L 341 (.ref 340) [])) Q E (up s h tk) :=
  r_call (s := up s h tk) SS (g_law_some _) (kp305 _) (by kernel_rfl) (by kernel_rfl) (by kernel_rfl) he hplain q heq
theorem lo341_law_drop (SS : St w g L l led h) (q : Q (.ref 279) (up s h tk)) : wpAny M A (eval (.Name (Str.ofString "_law_drop") pos) (envX (S "law") (fnS (stAt 38)) L 341 (.ref 340) [])) Q E (up s h tk) :=
  r_glob (s := up s h tk) SS (g_law_drop _) q (by kernel_rfl) (by kernel_rfl) (by kernel_rfl)
theorem ca341_law_drop (SS : St w g L l led h)
    (he : starEach (e :: rest) (envX (S "law") (fnS (stAt 38)) L 341 (.ref 340) []) = (false, eval e (envX (S "law") (fnS (stAt 38)) L 341 (.ref 340) [])) :: starEach rest (envX (S "law") (fnS (stAt 38)) L 341 (.ref 340) [])) (hplain : (backTo pos (starEach rest (envX (S "law") (fnS (stAt 38)) L 341 (.ref 340) []))).any (·.1) = false)
    (q : wpAny (model PW w) A (spliced (backTo pos (starEach (e :: rest) (envX (S "law") (fnS (stAt 38)) L 341 (.ref 340) [])))) (fun vs s₁ => (KK w.params).In s₁.heap ∧ wpAny (model PW w) A (call (.ref 279) vs) Q E s₁) E (up s h tk))
    (heq : eval (.Call (.Name (Str.ofString "_law_drop") xp) (e :: rest) [] pos) (envX (S "law") (fnS (stAt 38)) L 341 (.ref 340) []) = (do callWith pos (← eval (.Name (Str.ofString "_law_drop") xp) (envX (S "law") (fnS (stAt 38)) L 341 (.ref 340) [])) [] (backTo pos (starEach (e :: rest) (envX (S "law") (fnS (stAt 38)) L 341 (.ref 340) []))) (backToKw pos (keywordEach [] (envX (S "law") (fnS (stAt 38)) L 341 (.ref 340) []))))) :
    wpAny (model PW w) A (eval (.Call (.Name (Str.ofString "_law_drop") xp) (e :: rest) [] pos) (envX (S "law") (fnS (stAt 38)) L 341 (.ref 340) [])) Q E (up s h tk) :=
  r_call (s := up s h tk) SS (g_law_drop _) (kp279 _) (by kernel_rfl) (by kernel_rfl) (by kernel_rfl) he hplain q heq
theorem lo341_law_walk (SS : St w g L l led h) (q : Q (.ref 324) (up s h tk)) : wpAny M A (eval (.Name (Str.ofString "_law_walk") pos) (envX (S "law") (fnS (stAt 38)) L 341 (.ref 340) [])) Q E (up s h tk) :=
  r_glob (s := up s h tk) SS (g_law_walk _) q (by kernel_rfl) (by kernel_rfl) (by kernel_rfl)
theorem ca341_law_walk (SS : St w g L l led h)
    (he : starEach (e :: rest) (envX (S "law") (fnS (stAt 38)) L 341 (.ref 340) []) = (false, eval e (envX (S "law") (fnS (stAt 38)) L 341 (.ref 340) [])) :: starEach rest (envX (S "law") (fnS (stAt 38)) L 341 (.ref 340) [])) (hplain : (backTo pos (starEach rest (envX (S "law") (fnS (stAt 38)) L 341 (.ref 340) []))).any (·.1) = false)
    (q : wpAny (model PW w) A (spliced (backTo pos (starEach (e :: rest) (envX (S "law") (fnS (stAt 38)) L 341 (.ref 340) [])))) (fun vs s₁ => (KK w.params).In s₁.heap ∧ wpAny (model PW w) A (call (.ref 324) vs) Q E s₁) E (up s h tk))
    (heq : eval (.Call (.Name (Str.ofString "_law_walk") xp) (e :: rest) [] pos) (envX (S "law") (fnS (stAt 38)) L 341 (.ref 340) []) = (do callWith pos (← eval (.Name (Str.ofString "_law_walk") xp) (envX (S "law") (fnS (stAt 38)) L 341 (.ref 340) [])) [] (backTo pos (starEach (e :: rest) (envX (S "law") (fnS (stAt 38)) L 341 (.ref 340) []))) (backToKw pos (keywordEach [] (envX (S "law") (fnS (stAt 38)) L 341 (.ref 340) []))))) :
    wpAny (model PW w) A (eval (.Call (.Name (Str.ofString "_law_walk") xp) (e :: rest) [] pos) (envX (S "law") (fnS (stAt 38)) L 341 (.ref 340) [])) Q E (up s h tk) :=
  r_call (s := up s h tk) SS (g_law_walk _) (kp324 _) (by kernel_rfl) (by kernel_rfl) (by kernel_rfl) he hplain q heq
theorem lo341_Names (SS : St w g L l led h) (q : Q (.ref 167) (up s h tk)) : wpAny M A (eval (.Name (Str.ofString "Names") pos) (envX (S "law") (fnS (stAt 38)) L 341 (.ref 340) [])) Q E (up s h tk) :=
  r_glob (s := up s h tk) SS (g_Names _) q (by kernel_rfl) (by kernel_rfl) (by kernel_rfl)
theorem lo341_tuple (SS : St w g L l led h) (q : Q (.type "tuple") (up s h tk)) : wpAny M A (eval (.Name (Str.ofString "tuple") pos) (envX (S "law") (fnS (stAt 38)) L 341 (.ref 340) [])) Q E (up s h tk) :=
  r_blt (s := up s h tk) SS (b_tuple _) (by kernel_rfl) (by decide) q (by kernel_rfl) (by kernel_rfl) (by kernel_rfl)
theorem lo341_bound_names (SS : St w g L l led h) (q : Q (.ref 265) (up s h tk)) : wpAny M A (eval (.Name (Str.ofString "bound_names") pos) (envX (S "law") (fnS (stAt 38)) L 341 (.ref 340) [])) Q E (up s h tk) :=
  r_glob (s := up s h tk) SS (g_bound_names _) q (by kernel_rfl) (by kernel_rfl) (by kernel_rfl)
theorem ca341_bound_names (SS : St w g L l led h)
    (he : starEach (e :: rest) (envX (S "law") (fnS (stAt 38)) L 341 (.ref 340) []) = (false, eval e (envX (S "law") (fnS (stAt 38)) L 341 (.ref 340) [])) :: starEach rest (envX (S "law") (fnS (stAt 38)) L 341 (.ref 340) [])) (hplain : (backTo pos (starEach rest (envX (S "law") (fnS (stAt 38)) L 341 (.ref 340) []))).any (·.1) = false)
    (q : wpAny (model PW w) A (spliced (backTo pos (starEach (e :: rest) (envX (S "law") (fnS (stAt 38)) L 341 (.ref 340) [])))) (fun vs s₁ => (KK w.params).In s₁.heap ∧ wpAny (model PW w) A (call (.ref 265) vs) Q E s₁) E (up s h tk))
    (heq : eval (.Call (.Name (Str.ofString "bound_names") xp) (e :: rest) [] pos) (envX (S "law") (fnS (stAt 38)) L 341 (.ref 340) []) = (do callWith pos (← eval (.Name (Str.ofString "bound_names") xp) (envX (S "law") (fnS (stAt 38)) L 341 (.ref 340) [])) [] (backTo pos (starEach (e :: rest) (envX (S "law") (fnS (stAt 38)) L 341 (.ref 340) []))) (backToKw pos (keywordEach [] (envX (S "law") (fnS (stAt 38)) L 341 (.ref 340) []))))) :
    wpAny (model PW w) A (eval (.Call (.Name (Str.ofString "bound_names") xp) (e :: rest) [] pos) (envX (S "law") (fnS (stAt 38)) L 341 (.ref 340) [])) Q E (up s h tk) :=
  r_call (s := up s h tk) SS (g_bound_names _) (kp265 _) (by kernel_rfl) (by kernel_rfl) (by kernel_rfl) he hplain q heq
theorem lo341_law_opened_right (SS : St w g L l led h) (q : Q (.ref 336) (up s h tk)) : wpAny M A (eval (.Name (Str.ofString "_law_opened_right") pos) (envX (S "law") (fnS (stAt 38)) L 341 (.ref 340) [])) Q E (up s h tk) :=
  r_glob (s := up s h tk) SS (g_law_opened_right _) q (by kernel_rfl) (by kernel_rfl) (by kernel_rfl)
theorem ca341_law_opened_right (SS : St w g L l led h)
    (he : starEach (e :: rest) (envX (S "law") (fnS (stAt 38)) L 341 (.ref 340) []) = (false, eval e (envX (S "law") (fnS (stAt 38)) L 341 (.ref 340) [])) :: starEach rest (envX (S "law") (fnS (stAt 38)) L 341 (.ref 340) [])) (hplain : (backTo pos (starEach rest (envX (S "law") (fnS (stAt 38)) L 341 (.ref 340) []))).any (·.1) = false)
    (q : wpAny (model PW w) A (spliced (backTo pos (starEach (e :: rest) (envX (S "law") (fnS (stAt 38)) L 341 (.ref 340) [])))) (fun vs s₁ => (KK w.params).In s₁.heap ∧ wpAny (model PW w) A (call (.ref 336) vs) Q E s₁) E (up s h tk))
    (heq : eval (.Call (.Name (Str.ofString "_law_opened_right") xp) (e :: rest) [] pos) (envX (S "law") (fnS (stAt 38)) L 341 (.ref 340) []) = (do callWith pos (← eval (.Name (Str.ofString "_law_opened_right") xp) (envX (S "law") (fnS (stAt 38)) L 341 (.ref 340) [])) [] (backTo pos (starEach (e :: rest) (envX (S "law") (fnS (stAt 38)) L 341 (.ref 340) []))) (backToKw pos (keywordEach [] (envX (S "law") (fnS (stAt 38)) L 341 (.ref 340) []))))) :
    wpAny (model PW w) A (eval (.Call (.Name (Str.ofString "_law_opened_right") xp) (e :: rest) [] pos) (envX (S "law") (fnS (stAt 38)) L 341 (.ref 340) [])) Q E (up s h tk) :=
  r_call (s := up s h tk) SS (g_law_opened_right _) (kp336 _) (by kernel_rfl) (by kernel_rfl) (by kernel_rfl) he hplain q heq
end

section
variable {w : World} {A : Around} {E : Value → Shared → Prop} {s : Shared} {h : Heap} {tk : Nat} {a b : Int} {t u : Nat} {Q : Value → Shared → Prop}
theorem i_add (q : ∀ t tk', Q (.int (a + b) t) (up s h tk')) : wpAny (model PW w) A (binaryOp .Add (.int a t) (.int b u)) Q E (up s h tk) := PySem.P.add_int (q _ _)
theorem i_sub (q : ∀ t tk', Q (.int (a - b) t) (up s h tk')) : wpAny (model PW w) A (binaryOp .Sub (.int a t) (.int b u)) Q E (up s h tk) := PySem.P.sub_int (q _ _)
theorem i_mod (hb : b ≠ 0) (q : ∀ t tk', Q (.int (a.fmod b) t) (up s h tk')) : wpAny (model PW w) A (binaryOp .Mod (.int a t) (.int b u)) Q E (up s h tk) := PyProof.Rows.mod_int' hb (q _ _)
theorem i_mul (hm : PySem.IntMulOk a b) (q : ∀ t tk', Q (.int (a * b) t) (up s h tk')) : wpAny (model PW w) A (binaryOp .Mult (.int a t) (.int b u)) Q E (up s h tk) := PySem.P.mul_int (q _ _) hm
theorem i_div {A₀ : Around} {n : Nat} {cn : Str} {cs : PySem.Scope} {L f : Addr} {cd : Value} {h₀ : Heap} (R : Room n A₀) (hgen : cs.isGenerator = false) (hco : cs.isCoroutine = false) (B : Bs w h₀) (k : h₀.StaysIn h) (hb : b ≠ 0) (q : ∀ t tk', Q (.int (a.fdiv b) t) (up s h tk')) :
    wpAny (model PW w) (A₀.deeper (envX cn cs L f cd [])) (binaryOp .FloorDiv (.int a t) (.int b u)) Q E (up s h tk) := by
  obtain ⟨fs, hf⟩ := R.2.2.2
  refine PyProof.Rows.floordiv_int hb (q _ _) (.inr (PylongRoom.of (s := up s h tk) (B.keeps k).nolimit ?_ (SeerAt.of (B.keeps k).seer rfl (Around.frames_deeper hf) hgen hco rfl rfl)))
  have := R.2.1
  show A₀.depth + 1 + 100 < 1000
  omega
theorem i_eq (q : Q (.bool (a == b)) (up s h tk)) : wpAny (model PW w) A (compareOp .Eq (.int a t) (.int b u)) Q E (up s h tk) := PySem.P.eq_int q
theorem i_lt (q : Q (.bool (decide (a < b))) (up s h tk)) : wpAny (model PW w) A (compareOp .Lt (.int a t) (.int b u)) Q E (up s h tk) := PySem.P.lt_int q
theorem i_gt (q : Q (.bool (decide (a > b))) (up s h tk)) : wpAny (model PW w) A (compareOp .Gt (.int a t) (.int b u)) Q E (up s h tk) := PySem.P.gt_int q
/-- l[k] -/
theorem l_item {value slice : Expr} {l : Addr} {vs : List Value} {k : Int} {x : Value} (hl : h.IsList l vs.toArray) (h0 : 0 ≤ k) (h1 : k < 2 ^ 63) (hx : vs[k.toNat]? = some x) (q : Q x (up s h tk))
    (hs : subscripted slice false (.ref l) (.int k u) = operate [.ref l, .int k u] (getItem (.ref l) (.int k u))) : wpAny (model PW w) A (subscriptTail value slice (.ref l) (.int k u)) Q E (up s h tk) :=
  tail_any (s := up s h tk) hl.typeIs slot_list_getitem.lookup (wpAny_getItem_list (s := up s h tk) hl h0 h1 (by simpa using hx) q) hs
/-- x[k], a text -/
theorem s_item {value slice : Expr} {x : Str} {k : Nat} {c : Nat} (hx : x.cps[k]? = some c) (hk : k < 1000) (q : ∀ t tk', Q (.str ⟨#[c]⟩ t) (up s h tk'))
    (hs : subscripted slice false (.str x t) (.int k u) = operate [.str x t, .int k u] (getItem (.str x t) (.int k u))) : wpAny (model PW w) A (subscriptTail value slice (.str x t) (.int k u)) Q E (up s h tk) := by
  refine tail_any (s := up s h tk) (typeIs_str _ _ _) F.slot_str_getitem.lookup (PySem.P.getItem_str ?_ ?_ (q _ _)) hs
  · simp only [Bool.or_eq_false_iff, decide_eq_false_iff_not]; omega
  · have hl : k < x.length := (Array.getElem?_eq_some_iff.mp hx).1
    unfold seqIndex?
    dsimp only
    have h1 : ¬ ((k : Int) < 0) := by omega
    simp only [h1, if_false]
    rw [if_pos (by simp only [Bool.and_eq_true, decide_eq_true_eq]; omega), Int.toNat_natCast]
    exact hx
theorem t_tuple {l : Addr} {vs : List Value} (hl : h.IsList l vs.toArray) (q : ∀ h' a, h.StaysIn h' → h.get? a = none → h'.get? a = some (tupNew vs) → Q (.ref a) (up s h' tk)) (hsz : vs.length ≤ sizeLine) :
    wpAny (model PW w) A (call (.type "tuple") [.ref l]) Q E (up s h tk) := by
  refine call_tuple_list (s := up s h tk) hl (fun h' k => q _ _ (fun b o e => Heap.get?_push_of_some _ (k b o e)) ?_ (Heap.get?_push_size _ rfl)) (by rw [List.size_toArray]; exact hsz)
  cases e : h.get? h'.objs.size with
  | none => rfl
  | some o => exact absurd (Heap.lt_size (k _ _ e)) (Nat.lt_irrefl _)
theorem l_set {l : Addr} {vs : List Value} {k : Int} {v : Value} {Q : Unit → Shared → Prop} (hl : h.IsList l vs.toArray) (h0 : 0 ≤ k) (h1 : k < 2 ^ 63) (hk : k < vs.length)
    (q : ∀ h', Has h' (l, isL (vs.set k.toNat v)) → (∀ b o, b ∉ [l] → h.get? b = some o → h'.get? b = some o) → Q () (up s h' tk)) : wpAny (model PW w) A (setItem (.ref l) (.int k u) v) Q E (up s h tk) := by
  refine wpAny_setItem_list (s := up s h tk) hl h0 h1 (by simpa using hk) (fun h' hl' hs => q h' ?_ fun b o nb e => (hs.2 b fun x => nb (by simp [x])).trans e)
  obtain ⟨o, e, c, n, d⟩ := hl'
  refine ⟨o, e, c, n, d.trans ?_⟩
  simp
end
section
variable {M : Model} {A : Around} {E : Value → Shared → Prop} {s : Shared} {env : Env} {rest : List Stmt} {Q : Flow → Shared → Prop}
theorem x_sub {o i value : Expr} {p pos : Pos} (h : wpAny M A (eval value env) (fun v s₁ => wpAny M A (eval o env) (fun ov s₂ => wpAny M A (eval i env) (fun iv s₃ => wpAny M A (setItem ov iv v) (fun _ s₄ => wpAny M A (execs rest env) Q E s₄) E s₃) E s₂) E s₁) E s)
    (hs : swapsWith value (some (.Subscript o i p)) pos.line env = pure false) : wpAny M A (execs (.Assign [.Subscript o i p] value pos :: rest) env) Q E s := wpAny_execs_cons (wpAny_Assign_Subscript h hs)
end

noncomputable abbrev lstO (ys : List Value) : Obj := { cls := .type "list", data := .seq ys.toArray ys.length }
/-- behind one turn of a comprehension -/
noncomputable def Nx (s : Shared) (keep : List Addr) (h : Heap) (J : List Value → Heap → Prop) (ys : List Value) (s' : Shared) : Prop :=
  ∃ h' tk, s' = up s h' tk ∧ (∀ b ∈ keep, ∀ o, h.get? b = some o → h'.get? b = some o) ∧ J ys h'
section
variable {w : World} {A : Around} {E : Value → Shared → Prop} {s : Shared} {env : Env}
theorem comp_block {elt iter : Expr} {ifs : List Expr} {x : Str} {px : Pos} {scope : PySem.Scope} {cl : List (Str × Addr)} {pos : Pos} {h₂ : Heap} {tk₂ : Nat} {I : Addr} {fp wr : List Addr} {n : Nat} {P : Nat → Value → Prop} {Stt : Nat → Heap → Prop}
    {RR : Value → Addr → Result → Shared → Prop} (W : Walks PW w A I fp wr n P Stt) (hsz : n ≤ sizeLine)
    (hcell : ∀ y ∈ scope.names, y.2 ≠ .cell) (hkind : scope.kind = .function) (hx : scope.names.lookup x = some .local) (hst : Stt 0 h₂) (hfp : ∀ b ∈ fp, b < h₂.objs.size)
    (hwt : ∀ i h, Stt i h → NoTup h wr)
    (k : ∀ D C : Addr, D = h₂.objs.size → C ≠ D → h₂.get? C = none → ∃ J : Nat → List Value → Heap → Prop,
      (∀ h₁, h₂.StaysIn h₁ → J 0 [] h₁) ∧
      (∀ i ys h h' X, J i ys h → (∀ a ∈ X, a ∈ C :: D :: wr) → NoTup h X → (∀ b o, b ∉ X → h.get? b = some o → h'.get? b = some o) → J i ys h') ∧
      (∀ i v ys h tk m, i < n → P i v → J i ys h → Stt (i + 1) h → h.get? D = some (lstO ys) → h.Ns C m → m x = some v → ys.length ≤ i →
        wpAny (model PW w) A (forIn ifs true fun c r => if r = true then do let ok ← isTrue c (compEnvC scope cl C env) (eval c (compEnvC scope cl C env)); pure (ForInStep.yield ok) else pure (ForInStep.yield r))
          (fun ok s₃ => if ok = true then wpAny (model PW w) A (eval elt (compEnvC scope cl C env)) (fun y s₄ => Nx s (C :: D :: fp) h (J (i + 1)) (ys ++ [y]) s₄) NoE s₃ else Nx s (C :: D :: fp) h (J (i + 1)) ys s₃) NoE (up s h tk)) ∧
      (∀ h tk ys m, J n ys h → h.get? D = some (lstO ys) → h.Ns C m → RR (.ref D) C (.ok .next) (up s h tk))) :
    wpAny (model PW w) A (newList []) (fun acc s₃ => wpAny (model PW w) A (newFunctionEnv scope env.globals cl [] env.qual none .none (some env)) (fun cenv s₄ =>
      codeAny (model PW w) A (.compStart (.ListComp elt [⟨.Name x px, iter, ifs, 0⟩] scope pos) 0 (.ref I) acc { cenv with scope := relabel scope env }) (RR acc cenv.locals) s₄) E s₃) E (up s h₂ tk₂) := by
  refine wpAny_newObj_type (wpAny_newFunctionEnv hcell (by intro y hy; simp at hy) (fun h₁ hns₁ hsb₁ => ?_) hkind)
  dsimp only at hns₁ hsb₁ ⊢
  generalize hH2 : (up s h₂ tk₂).heap.push { cls := .type "list", dict := none, data := .seq ([] : List Value).toArray } = H2 at hns₁ hsb₁ ⊢
  have hH2' : h₂.push { cls := .type "list", dict := none, data := .seq ([] : List Value).toArray } = H2 := hH2
  have hC : H2.objs.size = h₂.objs.size + 1 := by rw [← hH2', Heap.size_push]
  have hDC : h₂.objs.size ≠ H2.objs.size := by rw [hC]; exact Nat.ne_of_lt (Nat.lt_succ_self _)
  have below : ∀ b, b < h₂.objs.size → b ≠ H2.objs.size ∧ b ≠ h₂.objs.size := fun b hb => ⟨by rw [hC]; exact Nat.ne_of_lt (Nat.lt_succ_of_lt hb), Nat.ne_of_lt hb⟩
  have hDf : h₂.objs.size ∉ fp := fun hm => Nat.lt_irrefl _ (hfp _ hm)
  have hCf : H2.objs.size ∉ fp := fun hm => by have := hfp _ hm; rw [hC] at this; exact Nat.lt_irrefl _ (Nat.lt_of_succ_lt this)
  have hDw : h₂.objs.size ∉ wr := fun hm => hDf (W.sub _ hm)
  have hCw : H2.objs.size ∉ wr := fun hm => hCf (W.sub _ hm)
  have old : h₂.StaysIn h₁ := fun b o e => hsb₁.extBut b o (below b (Heap.lt_size e)).1 (Heap.get?_push_of_some _ (hH2' ▸ Heap.get?_push_of_some _ e))
  have hacc : h₁.get? h₂.objs.size = some (lstO []) := hsb₁.extBut _ _ hDC (Heap.get?_push_of_some _ (hH2' ▸ Heap.get?_push_size _ rfl))
  have hst₁ : Stt 0 h₁ := W.frame _ _ _ hst fun b _ o e => old b o e
  have fresh : ∀ a, h₂.objs.size ≤ a → h₂.get? a = none := fun a ha => by
    cases e : h₂.get? a with
    | none => rfl
    | some o' => exact absurd (Heap.lt_size e) (Nat.not_lt.mpr ha)
  obtain ⟨J, J0, Js, step, fin⟩ := k h₂.objs.size H2.objs.size rfl (Ne.symm hDC) (fresh _ (by rw [hC]; exact Nat.le_succ _))
  have loop : ∀ s₃ : Shared, s₃ = up s h₁ (tk₂ + ([] : List (Str × Value)).length) →
      codeAny (model PW w) A (.compLoop (.ListComp elt [⟨.Name x px, iter, ifs, 0⟩] scope pos) 0 (.ref I) (.ref h₂.objs.size) (compEnvC scope cl H2.objs.size env))
        (RR (.ref h₂.objs.size) H2.objs.size) s₃ := by
    rintro s₃ rfl
    refine codeAny_compLoop_tests
      (fun k s' => ∃ h' tk i ys m', s' = up s h' tk ∧ i ≤ n ∧ k = n + 1 - i ∧ ys.length ≤ i ∧ Stt i h' ∧ h'.Ns H2.objs.size m' ∧ h'.get? h₂.objs.size = some (lstO ys) ∧ J i ys h') ?_ (n + 1)
      ⟨h₁, _, 0, [], _, rfl, Nat.zero_le _, rfl, Nat.le_refl _, hst₁, hns₁, hacc, J0 h₁ old⟩
    rintro k s' ⟨h', tk, i, ys, m', rfl, hi, rfl, hyl, hst', hn', eD, hJ⟩
    by_cases hlt : i < n
    · refine W.item i _ _ _ hlt hst' fun v h₃ tk₃ hPv hst₃ hk₃ => ?_
      have hn₃ : h₃.Ns H2.objs.size m' := hn'.at' fun o e => hk₃ _ o hCw e
      have eD₃ := hk₃ _ _ hDw eD
      have hJ₃ := Js _ _ _ _ wr hJ (fun a ha => .tail _ (.tail _ ha)) (hwt _ _ hst') hk₃
      refine wpAny_assign_Name (wpAny_storeName_local (lookup_relabel_local hx) hn₃ (fun h₄ hn₄ hs₄ => ?_) (by simp [compEnvC, relabel, hkind]))
      have hk₄ : ∀ b o, b ≠ H2.objs.size → h₃.get? b = some o → h₄.get? b = some o := fun b o nb e => (hs₄.2 b nb).trans e
      have hst₄ : Stt (i + 1) h₄ := W.frame _ _ _ hst₃ fun b hb o e => hk₄ b o (fun q => hCf (by have q' : b = H2.objs.size := q; rw [← q']; exact hb)) e
      have eD₄ := hk₄ _ _ hDC eD₃
      have hJ₄ := Js _ _ _ _ [H2.objs.size] hJ₃ (fun a ha => by rw [List.mem_singleton.mp ha]; exact .head _) (noTup_ns hn₃) fun b o nb e => hk₄ b o (fun q => nb (by rw [q]; exact .head _)) e
      have Z := step i v ys h₄ (tk₃ + 1) _ hlt hPv hJ₄ hst₄ eD₄ hn₄ (by simp) hyl
      refine wpAny_mono Z (fun ok s₅ h₅ => ?_) fun _ _ e => e.elim
      by_cases hok : ok = true
      · rw [if_pos hok] at h₅ ⊢
        refine wpAny_mono h₅ (fun y s₆ h₆ => ?_) fun _ _ e => e.elim
        obtain ⟨h₆, tk₆, rfl, hk₆, hJ₆⟩ := h₆
        have eD₆ := hk₆ _ (.tail _ (.head _)) _ eD₄
        have hn₆ := hn₄.at' fun o e => hk₆ _ (.head _) o e
        have hst₆ : Stt (i + 1) h₆ := W.frame _ _ _ hst₄ fun b hb o e => hk₆ b (.tail _ (.tail _ hb)) o e
        refine append_at (hsz := by show ys.toArray.size ≤ sizeLine; rw [List.size_toArray]; exact Nat.le_trans hyl (Nat.le_trans hi hsz)) eD₆ fun h₇ hs₇ hD₇ => ?_
        have hk₇ : ∀ b o, b ≠ h₂.objs.size → h₆.get? b = some o → h₇.get? b = some o := fun b o nb e => (hs₇.2 b nb).trans e
        refine ⟨n + 1 - (i + 1), by omega, h₇, tk₆, i + 1, ys ++ [y], _, rfl, hlt, rfl, by rw [List.length_append, List.length_singleton]; omega, W.frame _ _ _ hst₆ fun b hb o e => hk₇ b o (fun q => hDf (by have q' : b = h₂.objs.size := q; rw [← q']; exact hb)) e,
          hn₆.at' fun o e => hk₇ _ o (Ne.symm hDC) e, hD₇.trans (congrArg some (LCg.lst_snoc ys y)), Js _ _ _ _ [h₂.objs.size] hJ₆ (fun a ha => by rw [List.mem_singleton.mp ha]; exact .tail _ (.head _)) (fun a ha o e q => by rw [List.mem_singleton.mp ha, eD₆] at e; cases e; exact absurd (Value.type.inj q.1) (by decide)) fun b o nb e => hk₇ b o (fun q => nb (by rw [q]; exact .head _)) e⟩
      · rw [if_neg hok] at h₅ ⊢
        obtain ⟨h₆, tk₆, rfl, hk₆, hJ₆⟩ := h₅
        exact ⟨n + 1 - (i + 1), by omega, h₆, tk₆, i + 1, ys, _, rfl, hlt, rfl, by omega, W.frame _ _ _ hst₄ fun b hb o e => hk₆ b (.tail _ (.tail _ hb)) o e, hn₄.at' fun o e => hk₆ _ (.head _) o e, hk₆ _ (.tail _ (.head _)) _ eD₄, hJ₆⟩
    · obtain rfl : i = n := Nat.le_antisymm hi (Nat.not_lt.mp hlt)
      refine W.done _ _ _ hst' fun h₃ tk₃ hk₃ => ?_
      have hn₃ : h₃.Ns H2.objs.size m' := hn'.at' fun o e => hk₃ _ o hCw e
      have eD₃ := hk₃ _ _ hDw eD
      exact fin h₃ tk₃ ys _ (Js _ _ _ _ wr hJ (fun a ha => .tail _ (.tail _ ha)) (hwt _ _ hst') hk₃) eD₃ hn₃
  exact codeAny_compStart_list (loop _ rfl) (W.self 0 _ _ _ hst₁ (loop _ rfl))
end

/-- v is walked over: n values, P of them; I the iterator, ax what it walks over -/
noncomputable def IterOf (w : World) (A : Around) (h : Heap) (v : Value) (src : List Addr) (n : Nat) (P : Nat → Value → Prop) : Prop :=
  ∀ (s : Shared) (tk : Nat) (Q : Value → Shared → Prop) (E : Value → Shared → Prop),
    (∀ h₂ I Stt, h.StaysIn h₂ → h.get? I = none → Walks PW w A I (I :: src) [I] n P Stt → Stt 0 h₂ → (∀ b ∈ I :: src, b < h₂.objs.size) → (∀ b ∈ src, h.get? b ≠ none) → (∀ i h, Stt i h → NoTup h [I] ∧ ∃ o, h.get? I = some o) → Q (.ref I) (up s h₂ tk)) →
    wpAny (model PW w) A (pyIter v) Q E (up s h tk)
theorem noneAt {h : Heap} : h.get? h.objs.size = none := Heap.get?_none_of_le (Nat.le_refl _)
theorem IterOf.list {w : World} {A : Around} {h : Heap} {ax : Addr} {vs : List Value} (hh : A.handled = none) (hl : h.IsList ax vs.toArray) : IterOf w A h (.ref ax) [ax] vs.length (fun i v => vs[i]? = some v) := by
  intro s tk Q E k
  have hlt : ax < h.objs.size := by obtain ⟨_, e, _⟩ := hl; exact Heap.lt_size e
  refine wpAny_pyIter_list (s := up s h tk) hl ?_
  have W := Walks.list (prog := PW) (w := w) hh h.objs.size ax (Nat.ne_of_lt hlt) vs.toArray
  have e1 : vs.toArray.size = vs.length := by simp
  rw [e1] at W
  have e2 : (fun i v => vs.toArray[i]? = some v) = fun (i : Nat) v => vs[i]? = some v := by funext i v; simp
  rw [e2] at W
  refine k _ h.objs.size _ (fun b o e => Heap.get?_push_of_some _ e) noneAt W ⟨⟨_, Heap.get?_push_size _ rfl, rfl, rfl⟩, hl.push _⟩ (fun b hb => ?_) (fun b hb => ?_) fun i h' st => ⟨fun a ha o e q => ?_, ?_⟩
  · rw [Heap.size_push]
    rcases List.mem_cons.mp hb with rfl | hb
    · exact Nat.lt_succ_self _
    · rw [List.mem_singleton.mp hb]; exact Nat.lt_succ_of_lt hlt
  · rw [List.mem_singleton.mp hb]; obtain ⟨_, e, _⟩ := hl; rw [e]; exact fun q => nomatch q
  · obtain ⟨o', e', c, d⟩ := st.1
    rw [List.mem_singleton.mp ha, e'] at e; cases e
    rw [TupObj, c] at q; exact absurd (Value.type.inj q.1) (by decide)
  · obtain ⟨o', e', _⟩ := st.1; exact ⟨o', e'⟩
theorem IterOf.tup {w : World} {A : Around} {h : Heap} {ax : Addr} {vs : List Value} (hh : A.handled = none) (hl : IsTup h ax vs.toArray) : IterOf w A h (.ref ax) [ax] vs.length (fun i v => vs[i]? = some v) := by
  intro s tk Q E k
  have hl' : h.IsTuple ax vs.toArray := hl
  have hlt : ax < h.objs.size := by obtain ⟨_, e, _⟩ := hl; exact Heap.lt_size e
  refine wpAny_pyIter_tuple (s := up s h tk) hl' ?_
  have W := Walks.tuple (prog := PW) (w := w) hh h.objs.size ax (Nat.ne_of_lt hlt) vs.toArray
  have e1 : vs.toArray.size = vs.length := by simp
  rw [e1] at W
  have e2 : (fun i v => vs.toArray[i]? = some v) = fun (i : Nat) v => vs[i]? = some v := by funext i v; simp
  rw [e2] at W
  refine k _ h.objs.size _ (fun b o e => Heap.get?_push_of_some _ e) noneAt W ⟨⟨_, Heap.get?_push_size _ rfl, rfl, rfl⟩, hl.push _⟩ (fun b hb => ?_) (fun b hb => ?_) fun i h' st => ⟨fun a ha o e q => ?_, ?_⟩
  · rw [Heap.size_push]
    rcases List.mem_cons.mp hb with rfl | hb
    · exact Nat.lt_succ_self _
    · rw [List.mem_singleton.mp hb]; exact Nat.lt_succ_of_lt hlt
  · rw [List.mem_singleton.mp hb]; obtain ⟨_, e, _⟩ := hl; rw [e]; exact fun q => nomatch q
  · obtain ⟨o', e', c, d⟩ := st.1
    rw [List.mem_singleton.mp ha, e'] at e; cases e
    rw [TupObj, c] at q; exact absurd (Value.type.inj q.1) (by decide)
  · obtain ⟨o', e', _⟩ := st.1; exact ⟨o', e'⟩
theorem IterOf.range {w : World} {A : Around} {h : Heap} {r : Addr} {n : Nat} {t u v : Nat} (hh : A.handled = none) (hr : IsRange h r 0 n 1 t u v) (hn : n < 2 ^ 62) : IterOf w A h (.ref r) [] n (fun i v => ∃ t, v = .int (i : Int) t) := by
  intro s tk Q E k
  have size : Builtin.Range.rangeSize 0 n 1 = n := by
    unfold Builtin.Range.rangeSize
    rw [if_pos (by decide)]
    by_cases h0 : (0 : Int) < n
    · rw [if_pos h0, Int.ediv_one]; omega
    · rw [if_neg h0]; omega
  have small : Builtin.Range.small 0 n 1 = true := by
    unfold Builtin.Range.small
    rw [size]
    have two : (2 : Int) ^ 63 = 9223372036854775808 := by decide
    have n' : (n : Int) < 4611686018427387904 := by
      have : (2 : Nat) ^ 62 = 4611686018427387904 := by decide
      omega
    have fit : ∀ i : Int, 0 ≤ i → i < 9223372036854775808 → Builtin.Range.rangeFitsLong i = true := fun i a b => by
      unfold Builtin.Range.rangeFitsLong
      rw [two, Bool.and_eq_true]
      exact ⟨decide_eq_true (by omega), decide_eq_true b⟩
    rw [fit 0 (by decide) (by decide), fit n (by omega) (by omega), fit 1 (by decide) (by decide)]
    rw [if_pos (by decide), fit _ (by omega) (by omega), Bool.or_true]
    rfl
  refine wpAny_pyIter_range (s := up s h tk) hr small ?_
  have W := Walks.range (prog := PW) (w := w) hh h.objs.size 0 1 n
  have e2 : (fun (i : Nat) v => ∃ t, v = Value.int (0 + (i : Int) * 1) t) = fun (i : Nat) v => ∃ t, v = .int (i : Int) t := by funext i v; simp
  rw [e2] at W
  refine k _ h.objs.size _ (fun b o e => Heap.get?_push_of_some _ e) noneAt W ?_ (fun b hb => ?_) (fun b hb => nomatch hb) fun i h' st => ⟨fun a ha o e q => ?_, ⟨_, st⟩⟩
  · rw [size]
    exact Heap.get?_push_size _ rfl
  · rw [Heap.size_push, List.mem_singleton.mp hb]; exact Nat.lt_succ_self _
  · have st' : h'.get? h.objs.size = some _ := st
    rw [List.mem_singleton.mp ha, st'] at e; cases e
    exact absurd (Value.type.inj q.1) (by decide)
section
variable {w : World} {A : Around} {E : Value → Shared → Prop} {s : Shared} {env : Env}
/-- behind one turn of a for -/
noncomputable def ForK (s : Shared) (keep : List Addr) (h : Heap) (J : Heap → Prop) (Q : Flow → Shared → Prop) (f : Flow) (s' : Shared) : Prop := match f with
  | .next | .cont => ∃ h' tk, s' = up s h' tk ∧ (∀ b ∈ keep, ∀ o, h.get? b = some o → h'.get? b = some o) ∧ J h'
  | .brk => Q .next s'
  | .ret v => Q (.ret v) s'
theorem forK_next {keep : List Addr} {h h' : Heap} {tk : Nat} {J : Heap → Prop} {Q : Flow → Shared → Prop} (k : ∀ b ∈ keep, ∀ o, h.get? b = some o → h'.get? b = some o) (j : J h') : ForK s keep h J Q .next (up s h' tk) := ⟨h', tk, rfl, k, j⟩
theorem forK_cont {keep : List Addr} {h h' : Heap} {tk : Nat} {J : Heap → Prop} {Q : Flow → Shared → Prop} (k : ∀ b ∈ keep, ∀ o, h.get? b = some o → h'.get? b = some o) (j : J h') : ForK s keep h J Q .cont (up s h' tk) := ⟨h', tk, rfl, k, j⟩
theorem forK_ret {keep : List Addr} {h : Heap} {J : Heap → Prop} {Q : Flow → Shared → Prop} {v : Value} {s' : Shared} (q : Q (.ret v) s') : ForK s keep h J Q (.ret v) s' := q
theorem r_for {iter : Expr} {x : Str} {px pos : Pos} {body : List Stmt} {Q : Flow → Shared → Prop}
    (h : wpAny (model PW w) A (eval iter env) (fun v s₁ => ∃ h₁ tk₁ src n P, s₁ = up s h₁ tk₁ ∧ IterOf w A h₁ v src n P ∧
      ∀ I, h₁.get? I = none → ∃ J : Nat → Heap → Prop, (∀ h₂, h₁.StaysIn h₂ → J 0 h₂) ∧
        (∀ i h h', J i h → NoTup h [I] → (∀ b o, b ∉ [I] → h.get? b = some o → h'.get? b = some o) → J i h') ∧
        (∀ i v h tk, i < n → P i v → J i h → (∃ o, h.get? I = some o) →
          wpAny (model PW w) A (storeName env x v) (fun _ s₂ => wpAny (model PW w) A (execs body env) (ForK s (I :: src) h (J (i + 1)) Q) NoE s₂) NoE (up s h tk)) ∧
        (∀ h tk, J n h → Q .next (up s h tk))) E s)
    (hs : ∀ x, foldedSetIterable iter env x = pure x) : wpAny (model PW w) A (exec (.For (.Name x px) iter body [] pos) env) Q E s := by
  refine wpAny_For (wpAny_mono h (fun v s₁ hv => ?_) fun _ _ e => e) hs
  obtain ⟨h₁, tk₁, src, n, P, rfl, it, k⟩ := hv
  refine it s tk₁ _ _ fun h₂ I Stt k₂ hI W st₂ hfp hsrc hnt => ?_
  obtain ⟨J, J0, Js, step, fin⟩ := k I hI
  refine codeAny_forLoop (fun m s' => ∃ h' tk i, s' = up s h' tk ∧ i ≤ n ∧ m = n + 1 - i ∧ Stt i h' ∧ J i h') ?_ (n + 1) ⟨h₂, tk₁, 0, rfl, Nat.zero_le _, rfl, st₂, J0 h₂ k₂⟩
  rintro m s' ⟨h', tk, i, rfl, hi, rfl, st, hJ⟩
  by_cases hlt : i < n
  · refine W.item i _ _ _ hlt st fun v h₃ tk₃ hP st₃ k₃ => ?_
    have hJ₃ := Js _ _ _ hJ (hnt _ _ st).1 k₃
    have ho := (hnt _ _ st₃).2
    refine wpAny_assign_Name (wpAny_mono (step i v h₃ tk₃ hlt hP hJ₃ ho) (fun _ s₄ h₄ => wpAny_mono h₄ (fun f s₅ h₅ => ?_) fun _ _ e => e.elim) fun _ _ e => e.elim)
    cases f with
    | ret v => exact h₅
    | brk => exact h₅
    | next =>
      obtain ⟨h₆, tk₆, rfl, k₆, j₆⟩ := h₅
      exact ⟨n + 1 - (i + 1), by omega, h₆, tk₆, i + 1, rfl, hlt, rfl, W.frame _ _ _ st₃ k₆, j₆⟩
    | cont =>
      obtain ⟨h₆, tk₆, rfl, k₆, j₆⟩ := h₅
      exact ⟨n + 1 - (i + 1), by omega, h₆, tk₆, i + 1, rfl, hlt, rfl, W.frame _ _ _ st₃ k₆, j₆⟩
  · obtain rfl : i = n := Nat.le_antisymm hi (Nat.not_lt.mp hlt)
    refine W.done _ _ _ st fun h₃ tk₃ k₃ => wpAny_execs_nil ?_
    exact fin h₃ tk₃ (Js _ _ _ hJ (hnt _ _ st).1 k₃)
end

section
variable {w : World} {A : Around} {E : Value → Shared → Prop} {s : Shared} {env : Env}
/-- behind one turn of a while -/
noncomputable def WhK (s : Shared) (J : Nat → Heap → Prop) (n : Nat) (Q : Flow → Shared → Prop) (f : Flow) (s' : Shared) : Prop := match f with
  | .next | .cont => ∃ h' tk m, s' = up s h' tk ∧ m < n ∧ J m h'
  | .brk => Q .next s'
  | .ret v => Q (.ret v) s'
theorem whK_next {J : Nat → Heap → Prop} {n m : Nat} {h' : Heap} {tk : Nat} {Q : Flow → Shared → Prop} (k : m < n) (j : J m h') : WhK s J n Q .next (up s h' tk) := ⟨h', tk, m, rfl, k, j⟩
theorem whK_cont {J : Nat → Heap → Prop} {n m : Nat} {h' : Heap} {tk : Nat} {Q : Flow → Shared → Prop} (k : m < n) (j : J m h') : WhK s J n Q .cont (up s h' tk) := ⟨h', tk, m, rfl, k, j⟩
theorem whK_ret {J : Nat → Heap → Prop} {n : Nat} {Q : Flow → Shared → Prop} {v : Value} {s' : Shared} (q : Q (.ret v) s') : WhK s J n Q (.ret v) s' := q
theorem r_while {test : Expr} {pos : Pos} {body : List Stmt} {Q : Flow → Shared → Prop} {h : Heap} {tk : Nat} (J : Nat → Heap → Prop)
    (turn : ∀ n h tk, J n h → wpAny (model PW w) A (isTrue test env (eval test env)) (fun b s₂ => if b then wpAny (model PW w) A (execs body env) (WhK s J n Q) NoE s₂ else Q .next s₂) NoE (up s h tk))
    (n : Nat) (j : J n h) : wpAny (model PW w) A (exec (.While test body [] pos) env) Q E (up s h tk) := by
  refine wpAny_While (codeAny_whileLoop (fun m s' => ∃ h' tk, s' = up s h' tk ∧ J m h') ?_ n ⟨h, tk, rfl, j⟩)
  rintro m s' ⟨h', tk', rfl, hJ⟩
  refine wpAny_mono (turn m h' tk' hJ) (fun b s₂ hb => ?_) fun _ _ e => e.elim
  cases b with
  | false => exact wpAny_execs_nil hb
  | true =>
    refine wpAny_mono hb (fun f s₃ h₃ => ?_) fun _ _ e => e.elim
    cases f with
    | ret v => exact h₃
    | brk => exact h₃
    | next => obtain ⟨h₄, tk₄, k, rfl, hk, hj⟩ := h₃; exact ⟨k, hk, h₄, tk₄, rfl, hj⟩
    | cont => obtain ⟨h₄, tk₄, k, rfl, hk, hj⟩ := h₃; exact ⟨k, hk, h₄, tk₄, rfl, hj⟩
theorem r_listcomp {elt iter : Expr} {ifs : List Expr} {x : Str} {px pos : Pos} {scope : PySem.Scope} {cl : List (Str × Addr)} {Q : Value → Shared → Prop}
    (hclos : closureFor scope env = pure cl) (hcell : ∀ y ∈ scope.names, y.2 ≠ .cell) (hkind : scope.kind = .function) (hnames : ∀ y ∈ scope.names, y.2 = .local → scope.names.lookup y.1 = some .local) (hx : scope.names.lookup x = some .local)
    (h : wpAny (model PW w) A (eval iter env) (fun v s₁ => ∃ h₁ tk₁ src n P, s₁ = up s h₁ tk₁ ∧ IterOf w A h₁ v src n P ∧ n ≤ sizeLine ∧
      ∀ I D C, h₁.get? I = none → h₁.get? D = none → h₁.get? C = none → C ≠ D → ∃ J : Nat → List Value → Heap → Prop,
        (∀ h₂, h₁.StaysIn h₂ → J 0 [] h₂) ∧
        (∀ i ys h h' X, J i ys h → (∀ a ∈ X, a ∈ [C, D, I]) → NoTup h X → (∀ b o, b ∉ X → h.get? b = some o → h'.get? b = some o) → J i ys h') ∧
        (∀ i v ys h tk m, i < n → P i v → J i ys h → h.Ns C m → m x = some v → ys.length ≤ i → (∃ o, h.get? I = some o) → (∃ o, h.get? D = some o) →
          wpAny (model PW w) A (forIn ifs true fun c r => if r = true then do let ok ← isTrue c (compEnvC scope cl C env) (eval c (compEnvC scope cl C env)); pure (ForInStep.yield ok) else pure (ForInStep.yield r))
            (fun ok s₃ => if ok = true then wpAny (model PW w) A (eval elt (compEnvC scope cl C env)) (fun y s₄ => Nx s (C :: D :: I :: src) h (J (i + 1)) (ys ++ [y]) s₄) NoE s₃ else Nx s (C :: D :: I :: src) h (J (i + 1)) ys s₃) NoE (up s h tk)) ∧
        (∀ h tk ys, J n ys h → Has h (D, isPL ys) → Q (.ref D) (up s h tk))) E s)
    (hs : ∀ x, foldedSetIterable iter env x = pure x) : wpAny (model PW w) A (eval (.ListComp elt [⟨.Name x px, iter, ifs, 0⟩] scope pos) env) Q E s := by
  rw [eval_ListComp]
  refine wpAny_comprehension_free (use := none) rfl hs hclos hkind hnames (wpAny_mono h (fun v s₁ hv => ?_) fun _ _ e => e)
  obtain ⟨h₁, tk₁, src, n, P, rfl, it, hn, k⟩ := hv
  refine it s tk₁ _ _ fun h₂ I Stt k₂ hI W st₂ hfp hsrc hnt => ?_
  refine comp_block (RR := fun acc C => compPost (model PW w) A E none Q acc C) W hn hcell hkind hx st₂ hfp (fun i h st => (hnt i h st).1) fun D C hD hCD hC => ?_
  have n₁ : ∀ a, h₂.get? a = none → h₁.get? a = none := fun a e => by
    cases q : h₁.get? a with
    | none => rfl
    | some o => rw [k₂ _ _ q] at e; cases e
  have hD₂ : h₂.get? D = none := by rw [hD]; exact noneAt
  obtain ⟨J, J0, Js, step, fin⟩ := k I D C hI (n₁ _ hD₂) (n₁ _ hC) hCD
  refine ⟨J, fun h₃ k₃ => J0 h₃ fun b o e => k₃ b o (k₂ b o e), fun i ys h h' X j hX => Js i ys h h' X j fun a ha => by simpa using hX a ha, fun i v ys h tk m hi hP hJ st eD hns hm hy => step i v ys h tk m hi hP hJ hns hm hy (hnt _ _ st).2 ⟨_, eD⟩, fun h tk ys m hJ eD hns => ?_⟩
  · refine ⟨m, hns, fun h' hs' => fin h' tk ys (Js _ _ _ _ [C] hJ (fun a ha => by rw [List.mem_singleton.mp ha]; exact .head _) (noTup_ns hns) fun b o nb e => (hs'.2 b fun q => nb (by rw [q]; exact .head _)).trans e) ⟨_, (hs'.2 D (Ne.symm hCD)).trans eD, _, rfl⟩⟩
end

section
variable {w : World} {A : Around} {E : Value → Shared → Prop} {s : Shared} {h : Heap} {tk : Nat}
theorem applied_upto {sl : Addr} {n : Nat} {u : Nat} {Q : Int × Int × Nat → Shared → Prop} (hs : s.heap.IsSliceOf sl .none (.int 1 u) .none) (q : Q (0, 1, min 1 n) s) :
    wpAny (model PW w) A (Builtin.Slice.sliceApplied (.ref sl) (pure (n : Int))) Q E s := by
  obtain ⟨os, hos, hcs, hds⟩ := id hs
  unfold Builtin.Slice.sliceApplied Builtin.Slice.sliceFields
  refine wpAny_bind (wpAny_bind (wpAny_field hos hds (x := .none) rfl (wpAny_bind (wpAny_field hos hds (x := .int 1 u) rfl (wpAny_bind (wpAny_field hos hds (x := .none) rfl (wpAny_pure ?_)))))))
  refine wpAny_bind (slicePart_none ?_)
  show wpAny _ _ (if ((1 : Int) == 0) = true then _ else _) _ _ s
  rw [if_neg (by decide)]
  refine wpAny_bind (slicePart_none (wpAny_bind (slicePart_int (wpAny_bind (wpAny_pure ?_)))))
  show wpAny _ _ (match Builtin.Slice.sliceAdjust none (some 1) 1 (n : Int) with | (lo, hi) => pure (lo, (1 : Int), Builtin.Slice.slicePlaces lo hi 1)) _ _ s
  have e : Builtin.Slice.sliceAdjust none (some 1) 1 (n : Int) = (0, min 1 (n : Int)) := by
    unfold Builtin.Slice.sliceAdjust
    simp
  rw [e]
  have e2 : Builtin.Slice.slicePlaces 0 (min 1 (n : Int)) 1 = min 1 n := by
    cases n with
    | zero => rfl
    | succ n => rw [show min (1 : Int) ((n + 1 : Nat) : Int) = 1 from Int.min_eq_left (Int.ofNat_le.mpr (Nat.succ_le_succ (Nat.zero_le n))), show min 1 (n + 1) = 1 from Nat.min_eq_left (Nat.succ_le_succ (Nat.zero_le n))]; rfl
  show wpAny _ _ (pure ((0 : Int), (1 : Int), Builtin.Slice.slicePlaces 0 (min 1 (n : Int)) 1)) _ _ s
  rw [e2]
  exact wpAny_pure q
theorem applied_rev {sl : Addr} {n : Nat} {u : Nat} {Q : Int × Int × Nat → Shared → Prop} (hs : s.heap.IsSliceOf sl .none .none (.int (-1) u)) (q : Q ((n : Int) - 1, -1, n) s) :
    wpAny (model PW w) A (Builtin.Slice.sliceApplied (.ref sl) (pure (n : Int))) Q E s := by
  obtain ⟨os, hos, hcs, hds⟩ := id hs
  unfold Builtin.Slice.sliceApplied Builtin.Slice.sliceFields
  refine wpAny_bind (wpAny_bind (wpAny_field hos hds (x := .none) rfl (wpAny_bind (wpAny_field hos hds (x := .none) rfl (wpAny_bind (wpAny_field hos hds (x := .int (-1) u) rfl (wpAny_pure ?_)))))))
  refine wpAny_bind (slicePart_int ?_)
  show wpAny _ _ (if ((-1 : Int) == 0) = true then _ else _) _ _ s
  rw [if_neg (by decide)]
  refine wpAny_bind (slicePart_none (wpAny_bind (slicePart_none (wpAny_bind (wpAny_pure ?_)))))
  show wpAny _ _ (match Builtin.Slice.sliceAdjust none none (-1) (n : Int) with | (lo, hi) => pure (lo, (-1 : Int), Builtin.Slice.slicePlaces lo hi (-1))) _ _ s
  have e : Builtin.Slice.sliceAdjust none none (-1) (n : Int) = ((n : Int) - 1, -1) := by
    unfold Builtin.Slice.sliceAdjust
    simp
  rw [e]
  have e2 : Builtin.Slice.slicePlaces ((n : Int) - 1) (-1) (-1) = n := by
    unfold Builtin.Slice.slicePlaces
    rw [if_neg (by decide)]
    simp only [Int.neg_neg, Int.ediv_one]
    split <;> omega
  show wpAny _ _ (pure ((n : Int) - 1, (-1 : Int), Builtin.Slice.slicePlaces ((n : Int) - 1) (-1) (-1))) _ _ s
  rw [e2]
  exact wpAny_pure q
theorem t_sliced {t sl : Addr} {vs us : List Value} {lo st : Int} {n : Nat} {Q : Value → Shared → Prop} (ht : IsTup s.heap t vs.toArray) (hsl : s.TypeIs (.ref sl) "slice")
    (hap : ∀ {Q : Int × Int × Nat → Shared → Prop}, Q (lo, st, n) s → wpAny (model PW w) (A.under (.builtin "tuple.__getitem__" ⟨[.ref t, .ref sl], []⟩)) (Builtin.Slice.sliceApplied (.ref sl) (pure ((vs.toArray.size : Nat) : Int))) Q E s)
    (hp : (List.range n).filterMap (fun (k : Nat) => vs.toArray[(lo + (k : Int) * st).toNat]?) = us) (hz : us.length ≤ 10000)
    (hno : (lo == 0 && st == 1 && n == vs.toArray.size) = false)
    (q : Q (.ref s.heap.objs.size) { s with heap := s.heap.push { cls := .type "tuple", data := .seq us.toArray } }) : wpAny (model PW w) A (getItem (.ref t) (.ref sl)) Q E s := by
  have hdrop : sizeOk (.seq us.toArray) := by
    show us.toArray.size ≤ sizeLine
    rw [List.size_toArray]; simp only [sizeLine]; omega
  unfold getItem
  try with_reducible refine wpAny_holding ?_
  first | refine wpAny_bind (wpAny_pure ?_) | skip
  refine wpAny_bind (wpAny_sequenceKey ht.typeIs (by decide) ?_)
  refine wpAny_bind (wpAny_callSpecial?_slot (name := Str.ofString "__getitem__") ht.typeIs slot_tuple_getitem
    (wpAny_call_entry slot_tuple_getitem ht.typeIs entry_tuple_getitem ?_ (args_tuple_getitem _ _)))
  show wpAny _ _ (Builtin.Tuple.tupleItemsOf (.ref t) >>= _) _ _ s
  refine wpAny_bind (tupleItemsOf_ ht ?_)
  refine wpAny_bind (wpAny_typeOf hsl ?_)
  rw [if_pos (by decide)]
  refine wpAny_bind (hap ?_)
  show wpAny _ _ (if (lo == 0 && st == 1 && n == vs.toArray.size) = true then _ else _) _ _ s
  rw [if_neg (by rw [hno]; decide), hp]
  first
    | exact wpAny_bind (m := Builtin.Tuple.tupleExact _) (wpAny_newObj_type (wpAny_pure ⟨_, rfl, wpAny_pure q⟩) hdrop)
    | exact wpAny_bind (m := Builtin.Tuple.tupleExact _) (wpAny_newObj_type (wpAny_bind (wpAny_pure (wpAny_pure ⟨_, rfl, wpAny_pure q⟩))) hdrop)
    | exact wpAny_bind (wpAny_bind (m := Builtin.Tuple.tupleExact _) (wpAny_newObj_type (wpAny_pure (wpAny_pure ⟨_, rfl, wpAny_pure q⟩)) hdrop))
    | exact wpAny_bind (wpAny_bind (m := Builtin.Tuple.tupleExact _) (wpAny_newObj_type (wpAny_pure ⟨_, rfl, wpAny_pure q⟩) hdrop))
theorem pick_up {v v' : Value} {r : List Value} : (List.range (min 1 (v :: v' :: r).length)).filterMap (fun (k : Nat) => (v :: v' :: r).toArray[(0 + (k : Int) * 1).toNat]?) = [v] := by
  have e : min 1 (v :: v' :: r).length = 1 := Nat.min_eq_left (Nat.succ_le_succ (Nat.zero_le _))
  rw [e]; rfl
theorem fm_congr {α β : Type} {f g : α → Option β} : ∀ {l : List α}, (∀ k ∈ l, f k = g k) → l.filterMap f = l.filterMap g
  | [], _ => rfl
  | x :: r, h => by rw [List.filterMap_cons, List.filterMap_cons, h x (.head _), fm_congr fun k hk => h k (.tail _ hk)]
theorem pick_rev (vs : List Value) : (List.range vs.toArray.size).filterMap (fun (k : Nat) => vs.toArray[(((vs.toArray.size : Nat) : Int) - 1 + (k : Int) * (-1)).toNat]?) = vs.reverse := by
  have key := pick_run vs.reverse.toArray 0 vs.toArray.size
  rw [List.filterMap_map, List.drop_zero, List.take_of_length_le (by simp)] at key
  refine Eq.trans (fm_congr fun k hk => ?_) key
  have hk' := List.mem_range.mp hk
  rw [List.size_toArray] at hk' ⊢
  have e2 : (((vs.length : Nat) : Int) - 1 + (k : Int) * (-1)).toNat = vs.length - 1 - k := by
    rw [Int.mul_neg, Int.mul_one, ← Int.sub_eq_add_neg, Int.sub_sub]
    exact (Int.toNat_sub vs.length (1 + k)).trans (Nat.sub_add_eq _ _ _)
  rw [e2]
  show _ = vs.reverse.toArray[0 + k]?
  rw [Nat.zero_add, List.getElem?_toArray, List.getElem?_toArray, List.getElem?_reverse hk']
section
variable {env : Env} {value : Expr} {p pos cp : Pos} {k : Nat} {Q : Value → Shared → Prop}
noncomputable abbrev slo (a b c : Value) : Obj := { cls := .type "slice", data := .fields #[a, b, c] }
theorem x_upto (h : wpAny (model PW w) A (eval value env) (fun o s₁ => ∃ (h : Heap) (tk : Nat) (t : Addr) (vs : List Value), s₁ = up s h tk ∧ o = .ref t ∧ IsTup h t vs.toArray ∧ 2 ≤ vs.length ∧ vs.length ≤ 10000 ∧ ∀ c h' tk', IsTup h' c (vs.take 1).toArray → h.StaysIn h' → Q (.ref c) (up s h' tk')) E s)
    (hs : ∀ t sl, ∃ ops, subscripted (.Slice none (some (.Constant (.int 1) k cp)) none p) false (.ref t) (.ref sl) = operate ops (getItem (.ref t) (.ref sl))) :
    wpAny (model PW w) A (eval (.Subscript value (.Slice none (some (.Constant (.int 1) k cp)) none p) pos) env) Q E s := by
  refine Subscript_ (wpAny_mono h (fun o s₁ h₁ => ?_) fun _ _ x => x)
  obtain ⟨h, tk, t, vs, rfl, rfl, ht, h2, hz, q⟩ := h₁
  refine wpAny_Slice (wpAny_evalPart_none (wpAny_evalPart_some (r_int fun u tk' => wpAny_evalPart_none ?_)))
  obtain ⟨ops, hs⟩ := hs t h.objs.size
  have ht' : IsTup (h.push (slo .none (.int 1 u) .none)) t vs.toArray := ht.keeps fun _ _ e => Heap.get?_push_of_some _ e
  have hsl : (h.push (slo .none (.int 1 u) .none)).IsSliceOf h.objs.size .none (.int 1 u) .none := Heap.IsSliceOf.new ..
  cases vs with
  | nil => exact absurd h2 (by simp)
  | cons v r => cases r with
    | nil => exact absurd h2 (by simp)
    | cons v' r =>
      refine tail_any (s := up s (h.push (slo .none (.int 1 u) .none)) tk') ht'.typeIs slot_tuple_getitem.lookup (t_sliced (us := [v]) ht' (let ⟨o, e, c, _⟩ := hsl; ⟨o, e, c⟩) (fun q => applied_upto hsl q) ?_ (by simp) ?_ ?_) hs
      · exact pick_up
      · have : min 1 (v :: v' :: r).toArray.size ≠ (v :: v' :: r).toArray.size := by rw [List.size_toArray, List.length_cons, List.length_cons]; omega
        simp only [Bool.and_eq_false_iff, beq_eq_false_iff_ne]; exact .inr this
      · exact q _ _ tk' ⟨_, Heap.get?_push_size _ rfl, rfl, _, rfl⟩ fun _ _ e => Heap.get?_push_of_some _ (Heap.get?_push_of_some _ e)
theorem x_from (h : wpAny (model PW w) A (eval value env) (fun o s₁ => ∃ (h : Heap) (tk : Nat) (t : Addr) (vs : List Value), s₁ = up s h tk ∧ o = .ref t ∧ IsTup h t vs.toArray ∧ 1 ≤ vs.length ∧ vs.length ≤ 10000 ∧ ∀ c h' tk', IsTup h' c (vs.drop 1).toArray → h.StaysIn h' → Q (.ref c) (up s h' tk')) E s)
    (hs : ∀ t sl, ∃ ops, subscripted (.Slice (some (.Constant (.int 1) k cp)) none none p) false (.ref t) (.ref sl) = operate ops (getItem (.ref t) (.ref sl))) :
    wpAny (model PW w) A (eval (.Subscript value (.Slice (some (.Constant (.int 1) k cp)) none none p) pos) env) Q E s := by
  refine Subscript_ (wpAny_mono h (fun o s₁ h₁ => ?_) fun _ _ x => x)
  obtain ⟨h, tk, t, vs, rfl, rfl, ht, h2, hz, q⟩ := h₁
  refine wpAny_Slice (wpAny_evalPart_some (r_int fun u tk' => wpAny_evalPart_none (wpAny_evalPart_none ?_)))
  obtain ⟨ops, hs⟩ := hs t h.objs.size
  have ht' : IsTup (h.push (slo (.int 1 u) .none .none)) t vs.toArray := ht.keeps fun _ _ e => Heap.get?_push_of_some _ e
  refine tail_any (s := up s (h.push (slo (.int 1 u) .none .none)) tk') ht'.typeIs slot_tuple_getitem.lookup (getItem_tuple_from (a := 1) ht' (Heap.IsSliceOf.new ..) (by decide) (by rw [List.size_toArray]; exact h2) ?_ (by rw [List.size_toArray]; simp only [sizeLine]; omega)) hs
  exact q _ _ tk' ⟨_, Heap.get?_push_size _ rfl, rfl, _, rfl⟩ fun _ _ e => Heap.get?_push_of_some _ (Heap.get?_push_of_some _ e)
theorem x_rev {st : Expr} (h : wpAny (model PW w) A (eval value env) (fun o s₁ => ∃ (h : Heap) (tk : Nat) (t : Addr) (vs : List Value), s₁ = up s h tk ∧ o = .ref t ∧ IsTup h t vs.toArray ∧ vs.length ≤ 10000 ∧ ∀ c h' tk', h'.get? c = some (tupNew vs.reverse) → h.StaysIn h' → Q (.ref c) (up s h' tk')) E s)
    (hst : ∀ {h : Heap} {tk : Nat} {Q : Value → Shared → Prop}, (∀ u tk', Q (.int (-1) u) (up s h tk')) → wpAny (model PW w) A (eval st env) Q E (up s h tk))
    (hs : ∀ t sl, ∃ ops, subscripted (.Slice none none (some st) p) false (.ref t) (.ref sl) = operate ops (getItem (.ref t) (.ref sl))) :
    wpAny (model PW w) A (eval (.Subscript value (.Slice none none (some st) p) pos) env) Q E s := by
  refine Subscript_ (wpAny_mono h (fun o s₁ h₁ => ?_) fun _ _ x => x)
  obtain ⟨h, tk, t, vs, rfl, rfl, ht, hz, q⟩ := h₁
  refine wpAny_Slice (wpAny_evalPart_none (wpAny_evalPart_none (wpAny_evalPart_some (hst fun u tk' => ?_))))
  obtain ⟨ops, hs⟩ := hs t h.objs.size
  have ht' : IsTup (h.push (slo .none .none (.int (-1) u))) t vs.toArray := ht.keeps fun _ _ e => Heap.get?_push_of_some _ e
  have hsl : (h.push (slo .none .none (.int (-1) u))).IsSliceOf h.objs.size .none .none (.int (-1) u) := Heap.IsSliceOf.new ..
  refine tail_any (s := up s (h.push (slo .none .none (.int (-1) u))) tk') ht'.typeIs slot_tuple_getitem.lookup (t_sliced (us := vs.reverse) ht' (let ⟨o, e, c, _⟩ := hsl; ⟨o, e, c⟩) (fun q => applied_rev hsl q) (pick_rev vs) (by rw [List.length_reverse]; exact hz) (by simp) ?_) hs
  exact q _ _ tk' (Heap.get?_push_size _ rfl) fun _ _ e => Heap.get?_push_of_some _ (Heap.get?_push_of_some _ e)
end
end

local macro_rules | `(tactic| tbr_iter "zst") => `(tactic| first
  | ((with_reducible show wpAny _ _ (eval _ _) _ _ _); first
    | with_reducible refine x_upto ?_ (fun _ _ => ⟨_, by with_unfolding_all rfl⟩)
    | with_reducible refine x_from ?_ (fun _ _ => ⟨_, by with_unfolding_all rfl⟩)
    | with_reducible refine x_rev ?_ ?_ (fun _ _ => ⟨_, by with_unfolding_all rfl⟩)
    | with_reducible refine Subscript_ ?_
    | (with_reducible refine r_str ?_; intro t' tk')
    | (with_reducible refine r_int ?_; intro t' tk')
    | with_reducible refine wpAny_Compare1 ?_ (by with_unfolding_all rfl)
    | with_reducible refine BoolOp_one ?_
    | with_reducible refine BoolOp_and ?_
    | with_reducible refine BoolOp_or ?_
    | with_reducible refine IfExp_ ?_
    | with_reducible refine Tuple_ ?_
    | with_reducible refine List_ ?_
    | with_reducible refine wpAny_BinOp ?_
    | with_reducible refine Constant_bool ?_
    | with_reducible refine Constant_none ?_)
  | ((with_reducible show wpAny _ _ (isTrue _ _ _) _ _ _); first
    | with_reducible refine wpAny_isTrue_Compare1 ?_ (by with_unfolding_all rfl)
    | with_reducible refine isTrue_and_nil ?_
    | with_reducible refine isTrue_or_nil ?_
    | with_reducible refine isTrue_and ?_
    | with_reducible refine isTrue_or ?_
    | with_reducible refine isTrue_not ?_
    | with_reducible refine isTrue_plain ?_ (by with_unfolding_all rfl))
  | ((with_reducible show wpAny _ _ (execs _ _) _ _ _); first
    | with_reducible refine x_ret ?_
    | with_reducible refine x_asg ?_ (by with_unfolding_all rfl)
    | with_reducible refine x_if ?_
    | with_reducible refine x_expr ?_ (by with_unfolding_all rfl) (by with_unfolding_all rfl)
    | with_reducible refine wpAny_execs_nil ?_
    | with_reducible refine x_cont ?_)
  | with_reducible refine spliced_more ?_ (by with_unfolding_all rfl)
  | with_reducible refine spliced_none ?_
  | with_reducible refine wpAny_truthy_bool ?_
  | with_reducible refine r_eq_str ?_
  | with_reducible refine r_ne_str ?_
  | with_reducible refine seqK_next ?_
  | with_reducible refine seqK_ret ?_
  | with_reducible refine seqK_cont ?_
  | with_reducible refine retK_ret ?_
  | with_reducible refine retK_next ?_
  | ((with_reducible show wpAny _ _ (exec _ _) _ _ _); first
    | with_reducible refine wpAny_Return_some ?_
    | with_reducible refine wpAny_If ?_
    | with_reducible refine wpAny_Assign_Name ?_ (by with_unfolding_all rfl)
    | with_reducible refine wpAny_Expr_any ?_ (by with_unfolding_all rfl) (by with_unfolding_all rfl)))
local macro_rules | `(tactic| tbr_iter "ztup") => `(tactic| first
  | assumption
  | exact IsTup.keeps (by assumption) (St.F (by assumption)).keep)
local macro_rules | `(tactic| tbr_iter "zit") => `(tactic| (
  (with_reducible refine' item_tupleT ?ht ?lo ?hi ?hj ?hx ?_ ?hs); (case ht => tbr_iter "ztup"); (case lo => decide); (case hi => decide); (case hj => exact rfl); (case hx => exact rfl); (case hs => with_unfolding_all rfl)))
local macro_rules | `(tactic| tbr_iter "zif") => `(tactic| (first | (with_reducible refine' ite_pos ?c ?_; (case c => decide)) | (with_reducible refine' ite_neg ?c ?_; (case c => decide))))
local macro_rules | `(tactic| tbr_iter "znew") => `(tactic| first
  | (with_reducible refine r_newTuple ?_ (by exact Nat.le_of_ble_eq_true rfl); intro h' a' k' e' n'; (have S' := St.keeps (by assumption) k'))
  | (with_reducible refine r_newList ?_ (by exact Nat.le_of_ble_eq_true rfl); intro h' a' k' e' n'; (have S' := St.keeps (by assumption) k')))
local macro_rules | `(tactic| tbr_iter "zend") => `(tactic| (refine r_ret (by assumption) (by assumption) ?_))
local macro_rules | `(tactic| tbr_iter "zio") => `(tactic| (first
  | (with_reducible refine i_add ?_; intro t' tk')
  | (with_reducible refine i_mod (by decide) ?_; intro t' tk')
  | (with_reducible refine i_sub ?_; intro t' tk')))
local macro_rules | `(tactic| tbr_iter "zic") => `(tactic| (first
  | with_reducible refine i_eq ?_
  | with_reducible refine i_lt ?_
  | with_reducible refine i_gt ?_))
local macro_rules | `(tactic| tbr_iter "zli") => `(tactic| (
  (with_reducible refine' l_item ?hl ?h0 ?h1 ?hx ?_ ?hs); (case hl => assumption); (case h0 => decide); (case h1 => decide); (case hx => exact rfl); (case hs => with_unfolding_all rfl)))
local macro_rules | `(tactic| tbr_iter "zcb") => `(tactic| (first
  | with_reducible refine Call_ ?_ (by with_unfolding_all rfl)
  | with_reducible refine PySem.Pv.callWith_type1 ?_ (by with_unfolding_all rfl) (by with_unfolding_all rfl)
  | with_reducible refine PyProof.Rows.callWith_builtin1 ?_ (by with_unfolding_all rfl) (by with_unfolding_all rfl)
  | with_reducible refine PyProof.Rows.callWith_method1 ?_ (by with_unfolding_all rfl) (by with_unfolding_all rfl)
  | with_reducible refine PyProof.Rows.callWith_method0 ?_
  | with_reducible refine MethodCall_ ?_ (by with_unfolding_all rfl)
  | with_reducible refine PyProof.Rows.Attribute_name ?_))
local macro_rules | `(tactic| tbr_iter "zl209") => `(tactic| first
  | with_reducible refine lo209_place (by assumption) ?_
  | with_reducible refine lo209_head (by assumption) ?_
  | with_reducible refine lo209_parts (by assumption) ?_
  | with_reducible refine lo209_found (by assumption) ?_
  | with_reducible refine lo209_part (by assumption) ?_
  | with_reducible refine ca209_is_sym (by assumption) (by with_unfolding_all rfl) (by with_unfolding_all rfl) ?_ (by with_unfolding_all rfl)
  | with_reducible refine lo209_is_sym (by assumption) ?_
  | with_reducible refine ca209_head_of (by assumption) (by with_unfolding_all rfl) (by with_unfolding_all rfl) ?_ (by with_unfolding_all rfl)
  | with_reducible refine lo209_head_of (by assumption) ?_
  | with_reducible refine ca209_parts_of (by assumption) (by with_unfolding_all rfl) (by with_unfolding_all rfl) ?_ (by with_unfolding_all rfl)
  | with_reducible refine lo209_parts_of (by assumption) ?_
  | with_reducible refine lo209_len (by assumption) ?_
  | with_reducible refine ca209_place_names (by assumption) (by with_unfolding_all rfl) (by with_unfolding_all rfl) ?_ (by with_unfolding_all rfl)
  | with_reducible refine lo209_place_names (by assumption) ?_
  | with_reducible refine ca209_put_once (by assumption) (by with_unfolding_all rfl) (by with_unfolding_all rfl) ?_ (by with_unfolding_all rfl)
  | with_reducible refine lo209_put_once (by assumption) ?_)
local macro_rules | `(tactic| tbr_iter "zl312") => `(tactic| first
  | with_reducible refine lo312_spring (by assumption) ?_
  | with_reducible refine lo312_deep (by assumption) ?_
  | with_reducible refine lo312_way (by assumption) ?_
  | with_reducible refine lo312_inner (by assumption) ?_
  | with_reducible refine lo312_bound (by assumption) ?_
  | with_reducible refine lo312_one (by assumption) ?_
  | with_reducible refine lo312_body (by assumption) ?_
  | with_reducible refine lo312_worth (by assumption) ?_
  | with_reducible refine ca312_law_drop (by assumption) (by with_unfolding_all rfl) (by with_unfolding_all rfl) ?_ (by with_unfolding_all rfl)
  | with_reducible refine lo312_law_drop (by assumption) ?_
  | with_reducible refine ca312_law_name (by assumption) (by with_unfolding_all rfl) (by with_unfolding_all rfl) ?_ (by with_unfolding_all rfl)
  | with_reducible refine lo312_law_name (by assumption) ?_
  | with_reducible refine ca312_law_tree (by assumption) (by with_unfolding_all rfl) (by with_unfolding_all rfl) ?_ (by with_unfolding_all rfl)
  | with_reducible refine lo312_law_tree (by assumption) ?_
  | with_reducible refine ca312_law_place (by assumption) (by with_unfolding_all rfl) (by with_unfolding_all rfl) ?_ (by with_unfolding_all rfl)
  | with_reducible refine lo312_law_place (by assumption) ?_
  | with_reducible refine ca312_law_drawn (by assumption) (by with_unfolding_all rfl) (by with_unfolding_all rfl) ?_ (by with_unfolding_all rfl)
  | with_reducible refine lo312_law_drawn (by assumption) ?_
  | with_reducible refine ca312_law_some (by assumption) (by with_unfolding_all rfl) (by with_unfolding_all rfl) ?_ (by with_unfolding_all rfl)
  | with_reducible refine lo312_law_some (by assumption) ?_)
local macro_rules | `(tactic| tbr_iter "zl341") => `(tactic| first
  | with_reducible refine lo341_script (by assumption) ?_
  | with_reducible refine lo341_loop (by assumption) ?_
  | with_reducible refine lo341_k (by assumption) ?_
  | with_reducible refine lo341_spring (by assumption) ?_
  | with_reducible refine lo341_tree (by assumption) ?_
  | with_reducible refine lo341_lists (by assumption) ?_
  | with_reducible refine lo341_told (by assumption) ?_
  | with_reducible refine ca341_law_tree (by assumption) (by with_unfolding_all rfl) (by with_unfolding_all rfl) ?_ (by with_unfolding_all rfl)
  | with_reducible refine lo341_law_tree (by assumption) ?_
  | with_reducible refine lo341_range (by assumption) ?_
  | with_reducible refine lo341_max (by assumption) ?_
  | with_reducible refine lo341_min (by assumption) ?_
  | with_reducible refine lo341_len (by assumption) ?_
  | with_reducible refine ca341_law_spring (by assumption) (by with_unfolding_all rfl) (by with_unfolding_all rfl) ?_ (by with_unfolding_all rfl)
  | with_reducible refine lo341_law_spring (by assumption) ?_
  | with_reducible refine ca341_law_some (by assumption) (by with_unfolding_all rfl) (by with_unfolding_all rfl) ?_ (by with_unfolding_all rfl)
  | with_reducible refine lo341_law_some (by assumption) ?_
  | with_reducible refine ca341_law_drop (by assumption) (by with_unfolding_all rfl) (by with_unfolding_all rfl) ?_ (by with_unfolding_all rfl)
  | with_reducible refine lo341_law_drop (by assumption) ?_
  | with_reducible refine ca341_law_walk (by assumption) (by with_unfolding_all rfl) (by with_unfolding_all rfl) ?_ (by with_unfolding_all rfl)
  | with_reducible refine lo341_law_walk (by assumption) ?_
  | with_reducible refine lo341_Names (by assumption) ?_
  | with_reducible refine lo341_tuple (by assumption) ?_
  | with_reducible refine ca341_bound_names (by assumption) (by with_unfolding_all rfl) (by with_unfolding_all rfl) ?_ (by with_unfolding_all rfl)
  | with_reducible refine lo341_bound_names (by assumption) ?_
  | with_reducible refine ca341_law_opened_right (by assumption) (by with_unfolding_all rfl) (by with_unfolding_all rfl) ?_ (by with_unfolding_all rfl)
  | with_reducible refine lo341_law_opened_right (by assumption) ?_)

noncomputable def T.isSym : T → Bool
  | .sym _ => true
  | _ => false
noncomputable def T.isNode (x : Str) : T → Bool
  | .node y _ => y == x
  | _ => false
noncomputable def T.hd : T → Str
  | .node y _ => y
  | _ => S ""
noncomputable def T.parts : T → List T
  | .node _ ps => ps
  | _ => []
section
variable {w : World} {A : Around} {s : Shared} {h₀ : Heap}
/-- a tree taken apart, without a case split -/
theorem TreeAt.isRef {h : Heap} {v : Value} {t : T} (x : TreeAt h v t) : ∃ a, v = .ref a := by cases x <;> exact ⟨_, rfl⟩
theorem TreeAt.inv {h : Heap} {a : Addr} {hd : Str} {ps : List T} (x : TreeAt h (.ref a) (.node hd ps)) : ∃ p t1 t2 vs, IsTup h a [.str (S "expr") t1, .str hd t2, .ref p].toArray ∧ IsTup h p vs.toArray ∧ TreesAt h vs ps := by
  cases x with | node a b c => exact ⟨_, _, _, _, a, b, c⟩
theorem TreeAt.inv_sym {h : Heap} {a : Addr} {z : Str} (x : TreeAt h (.ref a) (.sym z)) : ∃ t1 t2, IsTup h a [.str (S "sym") t1, .str z t2].toArray := by
  cases x with | sym a => exact ⟨_, _, a⟩
theorem TreeAt.inv_int {h : Heap} {a : Addr} (x : TreeAt h (.ref a) .int) : ∃ t1 t2, IsTup h a [.str (S "int") t1, .int 1 t2].toArray := by
  cases x with | int a => exact ⟨_, _, a⟩
theorem TreesAt.one {h : Heap} {vs : List Value} {a : T} (x : TreesAt h vs [a]) : ∃ v, vs = [.ref v] ∧ TreeAt h (.ref v) a := by
  cases x with | cons p q => cases q; obtain ⟨v, rfl⟩ := p.isRef; exact ⟨_, rfl, p⟩
theorem TreesAt.two {h : Heap} {vs : List Value} {a b : T} (x : TreesAt h vs [a, b]) : ∃ v u, vs = [.ref v, .ref u] ∧ TreeAt h (.ref v) a ∧ TreeAt h (.ref u) b := by
  cases x with | cons p q => obtain ⟨u, rfl, r⟩ := q.one; obtain ⟨v, rfl⟩ := p.isRef; exact ⟨_, _, rfl, p, r⟩
theorem TreeAt.kg {W : Led} {g h : Heap} {v : Value} {t : T} (x : TreeAt h v t) (k : ∀ b o, b ∉ W.map (·.1) → h.get? b = some o → g.get? b = some o) (n : NoTup h (W.map (·.1))) : TreeAt g v t := x.mono (TupKeep.of_but n k)
theorem noTup_nil {h : Heap} : NoTup h (([] : Led).map (·.1)) := fun _ q => nomatch q
theorem sp_is_sym {v : Value} {t : T} (R : Room 1 A) (B : Bs w h₀) (k₀ : h₀.StaysIn s.heap) (ht : TreeAt s.heap v t) :
    wpAny (model PW w) A (call (.ref 49) [v]) (Ret s [] fun r _ => r = .bool t.isSym) NoE s := by
  refine en49 R B k₀ [] (by simp) ?_
  intro g L h₁ tk SS hg kg kg' k₁ R'
  have ht' := ht.kg kg noTup_nil
  refine x_cons ?_
  cases ht' <;> ((repeat (first|tbr_iter "zst"|(with_reducible first|refine lo49_tree ‹_› ?_|(refine so49_tree ‹_› ?_;intro _ _ _ _))|tbr_iter "zif"|tbr_iter "zit"|tbr_iter "znew")); tbr_iter "zend"; exact congrArg Value.bool (by kernel_rfl))
theorem sp_is_expr {v : Value} {t : T} {x : Str} {tx : Nat} (R : Room 1 A) (B : Bs w h₀) (k₀ : h₀.StaysIn s.heap) (ht : TreeAt s.heap v t) :
    wpAny (model PW w) A (call (.ref 28) [v, .str x tx]) (Ret s [] fun r _ => r = .bool (t.isNode x)) NoE s := by
  refine en28 R B k₀ [] (by simp) ?_
  intro g L h₁ tk SS hg kg kg' k₁ R'
  have ht' := ht.kg kg noTup_nil
  refine x_cons ?_
  cases ht' <;> ((repeat (first|tbr_iter "zst"|(with_reducible first|refine lo28_tree ‹_› ?_|(refine so28_tree ‹_› ?_;intro _ _ _ _)|refine lo28_head ‹_› ?_|(refine so28_head ‹_› ?_;intro _ _ _ _))|tbr_iter "zif"|tbr_iter "zit"|tbr_iter "znew")); tbr_iter "zend"; first | rfl | exact congrArg Value.bool (by kernel_rfl))
theorem sp_head_of {v : Value} {t : T} (R : Room 1 A) (B : Bs w h₀) (k₀ : h₀.StaysIn s.heap) (ht : TreeAt s.heap v t) :
    wpAny (model PW w) A (call (.ref 35) [v]) (Ret s [] fun r _ => ∃ tx, r = .str t.hd tx) NoE s := by
  refine en35 R B k₀ [] (by simp) ?_
  intro g L h₁ tk SS hg kg kg' k₁ R'
  have ht' := ht.kg kg noTup_nil
  refine x_cons ?_
  cases ht' <;> ((repeat (first|tbr_iter "zst"|(with_reducible first|refine lo35_tree ‹_› ?_|(refine so35_tree ‹_› ?_;intro _ _ _ _))|tbr_iter "zif"|tbr_iter "zit"|tbr_iter "znew")); tbr_iter "zend"; exact ⟨_, rfl⟩)
theorem sp_parts_of {v : Value} {t : T} (R : Room 1 A) (B : Bs w h₀) (k₀ : h₀.StaysIn s.heap) (ht : TreeAt s.heap v t) :
    wpAny (model PW w) A (call (.ref 42) [v]) (Ret s [] fun r h' => ∃ p vs, r = .ref p ∧ IsTup h' p vs.toArray ∧ TreesAt h' vs t.parts) NoE s := by
  refine en42 R B k₀ [] (by simp) ?_
  intro g L h₁ tk SS hg kg kg' k₁ R'
  have ht' := ht.kg kg noTup_nil
  refine x_cons ?_
  cases ht' with
  | node x y z =>
    (repeat (first|tbr_iter "zst"|(with_reducible first|refine lo42_tree ‹_› ?_|(refine so42_tree ‹_› ?_;intro _ _ _ _))|tbr_iter "zif"|tbr_iter "zit"|tbr_iter "znew")); tbr_iter "zend"
    exact ⟨_, _, rfl, y.keeps SS.F.keep, z.mono (TupKeep.of_stays SS.F.keep)⟩
  | _ =>
    (repeat (first|tbr_iter "zst"|(with_reducible first|refine lo42_tree ‹_› ?_|(refine so42_tree ‹_› ?_;intro _ _ _ _))|tbr_iter "zif"|tbr_iter "zit"|tbr_iter "znew")); tbr_iter "zend"
    exact ⟨_, [], rfl, ⟨_, by assumption, rfl, _, rfl⟩, .nil⟩
end

noncomputable def isSp : OP := fun o => ∃ n t1 c t2, 0 ≤ n ∧ 0 ≤ c ∧ c < 1999733 ∧ isL [.int n t1, .int c t2] o
theorem noTup_list {h : Heap} {a : Addr} {vs : List Value} (x : Has h (a, isL vs)) : NoTup h [a] := fun b hb o e => by
  obtain ⟨o', e', c, _⟩ := x
  rw [List.mem_singleton.mp hb] at e
  rw [show h.get? a = some o' from e'] at e
  cases e
  intro q; rw [TupObj, c] at q; exact absurd (Value.type.inj q.1) (by decide)
theorem Has.sp {h : Heap} {a : Addr} (x : Has h (a, isSp)) : ∃ n t1 c t2, 0 ≤ n ∧ 0 ≤ c ∧ c < 1999733 ∧ Has h (a, isL [.int n t1, .int c t2]) := by
  obtain ⟨o, e, n, t1, c, t2, h1, h2, h3, h4⟩ := x
  exact ⟨n, t1, c, t2, h1, h2, h3, o, e, h4⟩
theorem Has.of_sp {h : Heap} {a : Addr} {n c : Int} {t1 t2 : Nat} (h1 : 0 ≤ n) (h2 : 0 ≤ c) (h3 : c < 1999733) (x : Has h (a, isL [.int n t1, .int c t2])) : Has h (a, isSp) := by
  obtain ⟨o, e, h4⟩ := x
  exact ⟨o, e, n, t1, c, t2, h1, h2, h3, h4⟩
theorem noTup_sp {h : Heap} {a : Addr} (x : Has h (a, isSp)) : NoTup h [a] := let ⟨_, _, _, _, _, _, _, y⟩ := x.sp; noTup_list y
theorem St.one {w : World} {g : Heap} {L : Addr} {l : LM} {led : Led} {h h' : Heap} {a : Addr} {P : OP} (SS : St w g L l led h) (hm : ∃ P₀, (a, P₀) ∈ led) (k : ∀ b o, b ∉ [a] → h.get? b = some o → h'.get? b = some o) (x : Has h' (a, P)) : St w g L l [(a, P)] h' := by
  obtain ⟨P₀, hm⟩ := hm
  have z := (SS.N _ hm).2
  refine SS.but k (fun b hb => ?_) fun p hp => .inr ?_
  · rw [List.mem_singleton.mp hb]; exact z
  · rw [List.mem_singleton.mp hp]; exact ⟨.head _, x⟩
section
variable {w : World} {A : Around} {s : Shared} {h₀ : Heap}
theorem sp_drop {sp : Addr} {m : Int} {tm : Nat} (R : Room 1 A) (B : Bs w h₀) (k₀ : h₀.StaysIn s.heap) (hs : Has s.heap (sp, isSp)) (hn : h₀.get? sp = none) (m0 : 0 < m) (m1 : m < 1000) :
    wpAny (model PW w) A (call (.ref 279) [.ref sp, .int m tm]) (Ret s [sp] fun r h' => (∃ k t, r = .int (Nat.cast k) t ∧ (k : Int) < m) ∧ Has h' (sp, isSp)) NoE s := by
  refine en279 R B k₀ [(sp, isSp)] (fun p hp => by rw [List.mem_singleton.mp hp]; exact ⟨hs, hn⟩) ?_
  intro g L h₁ tk SS hg kg kg' k₁ R'
  obtain ⟨n, t1, c, t2, hn0, hc0, hc1, hl⟩ := (SS.N _ (.head _)).1.sp
  have hl' := hl.isList
  refine x_sub ?_ (by rfl)
  repeat (first | tbr_iter "zst" | (with_reducible first|refine lo279_spring ‹_› ?_|(refine so279_spring ‹_› ?_;intro _ _ _ _)|refine lo279_many ‹_› ?_|(refine so279_many ‹_› ?_;intro _ _ _ _)|refine lo279_got ‹_› ?_|(refine so279_got ‹_› ?_;intro _ _ _ _)) | tbr_iter "zio" | tbr_iter "zli")
  refine i_mul (by mul_fits) ?_
  intro t3 tk3
  repeat (first | tbr_iter "zst" | (with_reducible first|refine lo279_spring ‹_› ?_|(refine so279_spring ‹_› ?_;intro _ _ _ _)|refine lo279_many ‹_› ?_|(refine so279_many ‹_› ?_;intro _ _ _ _)|refine lo279_got ‹_› ?_|(refine so279_got ‹_› ?_;intro _ _ _ _)) | tbr_iter "zio" | tbr_iter "zli")
  refine l_set hl' (by decide) (by decide) (show (1 : Int) < ((2 : Nat) : Int) by decide) ?_
  intro h2 x2 k2
  have c0 := Int.emod_nonneg (c * 5519 + 887) (show (1999733 : Int) ≠ 0 by decide)
  have c1 := Int.emod_lt_of_pos (c * 5519 + 887) (show (0 : Int) < 1999733 by decide)
  rw [← Int.fmod_eq_emod_of_nonneg _ (by decide)] at c0 c1
  generalize (c * 5519 + 887).fmod 1999733 = d at x2 c0 c1
  replace x2 : Has h2 (sp, isL [Value.int n t1, Value.int d _]) := x2
  have S2 := SS.one ⟨_, .head _⟩ k2 x2
  have l2 := x2.isList
  repeat (first | tbr_iter "zst" | (with_reducible first|refine lo279_spring ‹_› ?_|(refine so279_spring ‹_› ?_;intro _ _ _ _)|refine lo279_many ‹_› ?_|(refine so279_many ‹_› ?_;intro _ _ _ _)|refine lo279_got ‹_› ?_|(refine so279_got ‹_› ?_;intro _ _ _ _)) | tbr_iter "zio" | tbr_iter "zli")
  refine i_div R (by rfl) (by rfl) S2.B S2.F.keep (by decide) ?_
  intro t4 tk4
  repeat (first | tbr_iter "zst" | (with_reducible first|refine lo279_spring ‹_› ?_|(refine so279_spring ‹_› ?_;intro _ _ _ _)|refine lo279_many ‹_› ?_|(refine so279_many ‹_› ?_;intro _ _ _ _)|refine lo279_got ‹_› ?_|(refine so279_got ‹_› ?_;intro _ _ _ _)) | tbr_iter "zio" | tbr_iter "zli")
  refine i_mod (by omega) ?_
  intro t5 tk5
  refine so279_got S2 ?_
  intro h3 tk3 S3 k3
  refine x_sub ?_ (by with_unfolding_all rfl)
  have l3 := (S3.N _ (.head _)).1.isList
  repeat (first | tbr_iter "zst" | (with_reducible first|refine lo279_spring ‹_› ?_|(refine so279_spring ‹_› ?_;intro _ _ _ _)|refine lo279_many ‹_› ?_|(refine so279_many ‹_› ?_;intro _ _ _ _)|refine lo279_got ‹_› ?_|(refine so279_got ‹_› ?_;intro _ _ _ _)) | tbr_iter "zio" | tbr_iter "zli")
  refine i_div R (by rfl) (by rfl) S3.B S3.F.keep (by omega) ?_
  intro t6 tk6
  repeat (first | tbr_iter "zst" | (with_reducible first|refine lo279_spring ‹_› ?_|(refine so279_spring ‹_› ?_;intro _ _ _ _)|refine lo279_many ‹_› ?_|(refine so279_many ‹_› ?_;intro _ _ _ _)|refine lo279_got ‹_› ?_|(refine so279_got ‹_› ?_;intro _ _ _ _)) | tbr_iter "zio" | tbr_iter "zli")
  refine l_set l3 (by decide) (by decide) (show (0 : Int) < ((2 : Nat) : Int) by decide) ?_
  intro h4 x4 k4
  replace x4 : Has h4 (sp, isL [Value.int (n.fdiv m) t6, Value.int d _]) := x4
  have S4 := S3.one ⟨_, .head _⟩ k4 x4
  repeat (first | tbr_iter "zst" | (with_reducible first|refine lo279_spring ‹_› ?_|(refine so279_spring ‹_› ?_;intro _ _ _ _)|refine lo279_many ‹_› ?_|(refine so279_many ‹_› ?_;intro _ _ _ _)|refine lo279_got ‹_› ?_|(refine so279_got ‹_› ?_;intro _ _ _ _)))
  have r0 := Int.emod_nonneg (n + d.fdiv 29) (show m ≠ 0 by omega)
  have r1 := Int.emod_lt_of_pos (n + d.fdiv 29) m0
  rw [← Int.fmod_eq_emod_of_nonneg _ (by omega)] at r0 r1
  have q0 : 0 ≤ n.fdiv m := Int.fdiv_nonneg hn0 (by omega)
  refine r_ret S4 kg ⟨⟨((n + d.fdiv 29).fmod m).toNat, t5, ?_, ?_⟩, Has.of_sp q0 c0 c1 x4⟩
  · rw [Int.toNat_of_nonneg r0]
  · rw [Int.toNat_of_nonneg r0]; exact r1
/-- what a name, a place, a tree of the law's tells of a value -/
theorem sp_tree {x : Str} {tx : Nat} {l : Addr} {vs : List Value} {ts : List T} (R : Room 1 A) (B : Bs w h₀) (k₀ : h₀.StaysIn s.heap) (hl : s.heap.IsList l vs.toArray) (ht : TreesAt s.heap vs ts) (hz : vs.length ≤ 10000) :
    wpAny (model PW w) A (call (.ref 286) [.str x tx, .ref l]) (Ret s [] fun r h' => TreeAt h' r (.node x ts)) NoE s := by
  refine en286 R B k₀ [] (fun p hp => nomatch hp) ?_
  intro g L h₁ tk SS hg kg kg' k₁ R'
  have hl₁ : h₁.IsList l vs.toArray := hl.at fun o e => k₁ _ _ e
  have ht₁ := ht.mono (TupKeep.of_stays k₁)
  refine x_ret ?_
  repeat (first | tbr_iter "zst" | (with_reducible first|refine lo286_head ‹_› ?_|(refine so286_head ‹_› ?_;intro _ _ _ _)|refine lo286_parts ‹_› ?_|(refine so286_parts ‹_› ?_;intro _ _ _ _)|refine lo286_tuple ‹_› ?_) | tbr_iter "zcb")
  refine t_tuple hl₁ ?_ (by simp only [sizeLine]; omega)
  intro h2 p k2 n2 e2
  have S2 := SS.keeps k2
  repeat (first | tbr_iter "zst" | (with_reducible first|refine lo286_head ‹_› ?_|(refine so286_head ‹_› ?_;intro _ _ _ _)|refine lo286_parts ‹_› ?_|(refine so286_parts ‹_› ?_;intro _ _ _ _)|refine lo286_tuple ‹_› ?_))
  refine r_newTuple ?_ (by exact Nat.le_of_ble_eq_true rfl)
  intro h3 a k3 _ e3
  refine r_ret (S2.keeps k3) kg (.node (p := p) (vs := vs) ⟨_, e3, rfl, _, rfl⟩ ⟨_, k3 _ _ e2, rfl, _, rfl⟩ (ht₁.mono ((TupKeep.of_stays k2).trans (TupKeep.of_stays k3))))
noncomputable def names : List Str := [S "a", S "b", S "c", S "p", S "q"]
theorem abcpq : ∀ k < 5, ∃ c, (S "abcpq").cps[k]? = some c ∧ (⟨#[c]⟩ : Str) ∈ names := by
  intro k hk
  have : k = 0 ∨ k = 1 ∨ k = 2 ∨ k = 3 ∨ k = 4 := by omega
  rcases this with rfl | rfl | rfl | rfl | rfl
  · exact ⟨97, by decide +kernel, by decide +kernel⟩
  · exact ⟨98, by decide +kernel, by decide +kernel⟩
  · exact ⟨99, by decide +kernel, by decide +kernel⟩
  · exact ⟨112, by decide +kernel, by decide +kernel⟩
  · exact ⟨113, by decide +kernel, by decide +kernel⟩
theorem sp_name {sp : Addr} (R : Room 2 A) (B : Bs w h₀) (k₀ : h₀.StaysIn s.heap) (hs : Has s.heap (sp, isSp)) (hn : h₀.get? sp = none) :
    wpAny (model PW w) A (call (.ref 293) [.ref sp]) (Ret s [sp] fun r h' => (∃ x, x ∈ names ∧ TreeAt h' r (.sym x)) ∧ Has h' (sp, isSp)) NoE s := by
  refine en293 R B k₀ [(sp, isSp)] (fun p hp => by rw [List.mem_singleton.mp hp]; exact ⟨hs, hn⟩) ?_
  intro g L h₁ tk SS hg kg kg' k₁ R'
  refine x_ret ?_
  repeat (first | tbr_iter "zst" | (with_reducible first|refine lo293_spring ‹_› ?_|(refine so293_spring ‹_› ?_;intro _ _ _ _)|refine ca293_law_drop ‹_› (by with_unfolding_all rfl) (by with_unfolding_all rfl) ?_ (by with_unfolding_all rfl)|refine lo293_law_drop ‹_› ?_) | tbr_iter "zcb")
  refine ⟨SS.kin, r_use (sp_drop R' B (fun b o e => SS.F.keep b o (hg b o e)) (SS.N _ (.head _)).1 hn (by decide) (by decide)) ?_⟩
  rintro r h2 tk2 k2 ⟨⟨k, t, rfl, hk⟩, x2⟩
  have S2 := SS.one ⟨_, .head _⟩ k2 x2
  obtain ⟨c, hc, hm⟩ := abcpq k (by omega)
  refine s_item hc (by omega) ?_ (by with_unfolding_all rfl)
  intro t3 tk3
  repeat (first | tbr_iter "zst")
  refine r_newTuple ?_ (by exact Nat.le_of_ble_eq_true rfl)
  intro h3 a k3 _ e3
  exact r_ret (S2.keeps k3) kg ⟨⟨_, hm, .sym ⟨_, e3, rfl, _, rfl⟩⟩, ((S2.keeps k3).N _ (.head _)).1⟩
/-- places -/
inductive Place where
  | nm (x : Str)
  | tup (x y : Str)
  | typed (x : Str)
  | dot (x : Str)
noncomputable def Place.t : Place → T
  | .nm x => .sym x
  | .tup x y => .node (S "tuple") [.sym x, .sym y]
  | .typed x => .node (S "::") [.sym x, .sym (S "Int64")]
  | .dot x => .node (S ".") [.sym x, .sym (S "x")]
noncomputable def Place.xs : Place → List Str
  | .nm x => [x]
  | .tup x y => [x, y]
  | .typed x => [x]
  | .dot _ => []
noncomputable def Place.ok (P : Place) : Prop := ∀ x ∈ P.xs, x ∈ names
theorem sp_place {sp : Addr} (R : Room 3 A) (B : Bs w h₀) (k₀ : h₀.StaysIn s.heap) (hs : Has s.heap (sp, isSp)) (hn : h₀.get? sp = none) :
    wpAny (model PW w) A (call (.ref 300) [.ref sp]) (Ret s [sp] fun r h' => (∃ P : Place, P.ok ∧ TreeAt h' r P.t) ∧ Has h' (sp, isSp)) NoE s := by
  refine en300 R B k₀ [(sp, isSp)] (fun p hp => by rw [List.mem_singleton.mp hp]; exact ⟨hs, hn⟩) ?_
  intro g L h₁ tk SS hg kg kg' k₁ R'
  refine x_asg ?_ (by rfl)
  repeat (first | tbr_iter "zst" | (with_reducible first|refine lo300_spring ‹_› ?_|(refine so300_spring ‹_› ?_;intro _ _ _ _)|refine lo300_way ‹_› ?_|(refine so300_way ‹_› ?_;intro _ _ _ _)|refine ca300_law_drop ‹_› (by with_unfolding_all rfl) (by with_unfolding_all rfl) ?_ (by with_unfolding_all rfl)|refine lo300_law_drop ‹_› ?_|refine ca300_law_tree ‹_› (by with_unfolding_all rfl) (by with_unfolding_all rfl) ?_ (by with_unfolding_all rfl)|refine lo300_law_tree ‹_› ?_|refine ca300_law_name ‹_› (by with_unfolding_all rfl) (by with_unfolding_all rfl) ?_ (by with_unfolding_all rfl)|refine lo300_law_name ‹_› ?_) | tbr_iter "zcb")
  refine ⟨SS.kin, r_use (sp_drop (R'.le (by decide)) B (fun b o e => SS.F.keep b o (hg b o e)) (SS.N _ (.head _)).1 hn (by decide) (by decide)) ?_⟩
  rintro r h2 tk2 k2 ⟨⟨k, t, rfl, hk⟩, x2⟩
  have S2 := SS.one ⟨_, .head _⟩ k2 x2
  have kk : k = 0 ∨ k = 1 ∨ k = 2 ∨ (k = 3 ∨ k = 4 ∨ k = 5) := by omega
  refine so300_way S2 ?_
  intro h3 tk3 S3 k3
  clear SS S2
  rcases kk with rfl | rfl | rfl | kk
  · repeat (first | tbr_iter "zst" | (with_reducible first|refine lo300_spring ‹_› ?_|(refine so300_spring ‹_› ?_;intro _ _ _ _)|refine lo300_way ‹_› ?_|(refine so300_way ‹_› ?_;intro _ _ _ _)|refine ca300_law_drop ‹_› (by with_unfolding_all rfl) (by with_unfolding_all rfl) ?_ (by with_unfolding_all rfl)|refine lo300_law_drop ‹_› ?_|refine ca300_law_tree ‹_› (by with_unfolding_all rfl) (by with_unfolding_all rfl) ?_ (by with_unfolding_all rfl)|refine lo300_law_tree ‹_› ?_|refine ca300_law_name ‹_› (by with_unfolding_all rfl) (by with_unfolding_all rfl) ?_ (by with_unfolding_all rfl)|refine lo300_law_name ‹_› ?_) | tbr_iter "zic" | tbr_iter "zif" | tbr_iter "zcb")
    refine ⟨S3.kin, r_use (sp_name (R'.le (by decide)) B (fun b o e => S3.F.keep b o (hg b o e)) (S3.N _ (.head _)).1 hn) ?_⟩
    rintro r h4 tk4 k4 ⟨⟨x, hx, ht⟩, x4⟩
    have S4 := S3.one ⟨_, .head _⟩ k4 x4
    repeat (first | tbr_iter "zst" | (with_reducible first|refine lo300_spring ‹_› ?_|(refine so300_spring ‹_› ?_;intro _ _ _ _)|refine lo300_way ‹_› ?_|(refine so300_way ‹_› ?_;intro _ _ _ _)|refine ca300_law_drop ‹_› (by with_unfolding_all rfl) (by with_unfolding_all rfl) ?_ (by with_unfolding_all rfl)|refine lo300_law_drop ‹_› ?_|refine ca300_law_tree ‹_› (by with_unfolding_all rfl) (by with_unfolding_all rfl) ?_ (by with_unfolding_all rfl)|refine lo300_law_tree ‹_› ?_|refine ca300_law_name ‹_› (by with_unfolding_all rfl) (by with_unfolding_all rfl) ?_ (by with_unfolding_all rfl)|refine lo300_law_name ‹_› ?_))
    refine ⟨S4.kin, r_use (sp_name (R'.le (by decide)) B (fun b o e => S4.F.keep b o (hg b o e)) (S4.N _ (.head _)).1 hn) ?_⟩
    rintro r' h5 tk5 k5 ⟨⟨y, hy, hu⟩, x5⟩
    have S5 := S4.one ⟨_, .head _⟩ k5 x5
    have ht5 := ht.mono (TupKeep.of_but (noTup_sp x4) k5)
    repeat (first | tbr_iter "zst" | (with_reducible first|refine lo300_spring ‹_› ?_|(refine so300_spring ‹_› ?_;intro _ _ _ _)|refine lo300_way ‹_› ?_|(refine so300_way ‹_› ?_;intro _ _ _ _)|refine ca300_law_drop ‹_› (by with_unfolding_all rfl) (by with_unfolding_all rfl) ?_ (by with_unfolding_all rfl)|refine lo300_law_drop ‹_› ?_|refine ca300_law_tree ‹_› (by with_unfolding_all rfl) (by with_unfolding_all rfl) ?_ (by with_unfolding_all rfl)|refine lo300_law_tree ‹_› ?_|refine ca300_law_name ‹_› (by with_unfolding_all rfl) (by with_unfolding_all rfl) ?_ (by with_unfolding_all rfl)|refine lo300_law_name ‹_› ?_))
    refine r_newList ?_ (by exact Nat.le_of_ble_eq_true rfl)
    intro h6 a k6 _ e6
    have S6 := S5.keeps k6
    repeat (first | tbr_iter "zst" | (with_reducible first|refine lo300_spring ‹_› ?_|(refine so300_spring ‹_› ?_;intro _ _ _ _)|refine lo300_way ‹_› ?_|(refine so300_way ‹_› ?_;intro _ _ _ _)|refine ca300_law_drop ‹_› (by with_unfolding_all rfl) (by with_unfolding_all rfl) ?_ (by with_unfolding_all rfl)|refine lo300_law_drop ‹_› ?_|refine ca300_law_tree ‹_› (by with_unfolding_all rfl) (by with_unfolding_all rfl) ?_ (by with_unfolding_all rfl)|refine lo300_law_tree ‹_› ?_|refine ca300_law_name ‹_› (by with_unfolding_all rfl) (by with_unfolding_all rfl) ?_ (by with_unfolding_all rfl)|refine lo300_law_name ‹_› ?_))
    refine ⟨S6.kin, r_use (sp_tree (R'.le (by decide)) B (fun b o e => S6.F.keep b o (hg b o e)) (vs := [r, r']) ⟨_, e6, rfl, _, rfl⟩ ((TreesAt.cons ht5 (.cons hu .nil)).mono (TupKeep.of_stays k6)) (by simp)) ?_⟩
    rintro r2 h7 tk7 k7 hv
    have S7 := S6.keeps (fun b o e => k7 b o (fun q => nomatch q) e)
    repeat (first | tbr_iter "zst")
    refine r_ret S7 kg ?_
    exact ⟨⟨.tup x y, fun z hz => by simp [Place.xs] at hz; rcases hz with rfl | rfl <;> assumption, hv⟩, (S7.N _ (.head _)).1⟩
  · repeat (first | tbr_iter "zst" | (with_reducible first|refine lo300_spring ‹_› ?_|(refine so300_spring ‹_› ?_;intro _ _ _ _)|refine lo300_way ‹_› ?_|(refine so300_way ‹_› ?_;intro _ _ _ _)|refine ca300_law_drop ‹_› (by with_unfolding_all rfl) (by with_unfolding_all rfl) ?_ (by with_unfolding_all rfl)|refine lo300_law_drop ‹_› ?_|refine ca300_law_tree ‹_› (by with_unfolding_all rfl) (by with_unfolding_all rfl) ?_ (by with_unfolding_all rfl)|refine lo300_law_tree ‹_› ?_|refine ca300_law_name ‹_› (by with_unfolding_all rfl) (by with_unfolding_all rfl) ?_ (by with_unfolding_all rfl)|refine lo300_law_name ‹_› ?_) | tbr_iter "zic" | tbr_iter "zif" | tbr_iter "zcb")
    refine ⟨S3.kin, r_use (sp_name (R'.le (by decide)) B (fun b o e => S3.F.keep b o (hg b o e)) (S3.N _ (.head _)).1 hn) ?_⟩
    rintro r h4 tk4 k4 ⟨⟨x, hx, ht⟩, x4⟩
    have S4 := S3.one ⟨_, .head _⟩ k4 x4
    repeat (first | tbr_iter "zst" | (with_reducible first|refine lo300_spring ‹_› ?_|(refine so300_spring ‹_› ?_;intro _ _ _ _)|refine lo300_way ‹_› ?_|(refine so300_way ‹_› ?_;intro _ _ _ _)|refine ca300_law_drop ‹_› (by with_unfolding_all rfl) (by with_unfolding_all rfl) ?_ (by with_unfolding_all rfl)|refine lo300_law_drop ‹_› ?_|refine ca300_law_tree ‹_› (by with_unfolding_all rfl) (by with_unfolding_all rfl) ?_ (by with_unfolding_all rfl)|refine lo300_law_tree ‹_› ?_|refine ca300_law_name ‹_› (by with_unfolding_all rfl) (by with_unfolding_all rfl) ?_ (by with_unfolding_all rfl)|refine lo300_law_name ‹_› ?_))
    refine r_newTuple ?_ (by exact Nat.le_of_ble_eq_true rfl)
    intro h5 a' k5 _ e5
    have S5 := S4.keeps k5
    repeat (first | tbr_iter "zst" | (with_reducible first|refine lo300_spring ‹_› ?_|(refine so300_spring ‹_› ?_;intro _ _ _ _)|refine lo300_way ‹_› ?_|(refine so300_way ‹_› ?_;intro _ _ _ _)|refine ca300_law_drop ‹_› (by with_unfolding_all rfl) (by with_unfolding_all rfl) ?_ (by with_unfolding_all rfl)|refine lo300_law_drop ‹_› ?_|refine ca300_law_tree ‹_› (by with_unfolding_all rfl) (by with_unfolding_all rfl) ?_ (by with_unfolding_all rfl)|refine lo300_law_tree ‹_› ?_|refine ca300_law_name ‹_› (by with_unfolding_all rfl) (by with_unfolding_all rfl) ?_ (by with_unfolding_all rfl)|refine lo300_law_name ‹_› ?_))
    refine r_newList ?_ (by exact Nat.le_of_ble_eq_true rfl)
    intro h6 a k6 _ e6
    have S6 := S5.keeps k6
    repeat (first | tbr_iter "zst" | (with_reducible first|refine lo300_spring ‹_› ?_|(refine so300_spring ‹_› ?_;intro _ _ _ _)|refine lo300_way ‹_› ?_|(refine so300_way ‹_› ?_;intro _ _ _ _)|refine ca300_law_drop ‹_› (by with_unfolding_all rfl) (by with_unfolding_all rfl) ?_ (by with_unfolding_all rfl)|refine lo300_law_drop ‹_› ?_|refine ca300_law_tree ‹_› (by with_unfolding_all rfl) (by with_unfolding_all rfl) ?_ (by with_unfolding_all rfl)|refine lo300_law_tree ‹_› ?_|refine ca300_law_name ‹_› (by with_unfolding_all rfl) (by with_unfolding_all rfl) ?_ (by with_unfolding_all rfl)|refine lo300_law_name ‹_› ?_))
    refine ⟨S6.kin, r_use (sp_tree (R'.le (by decide)) B (fun b o e => S6.F.keep b o (hg b o e)) (vs := [r, .ref a']) ⟨_, e6, rfl, _, rfl⟩ ((TreesAt.cons (ht.mono (TupKeep.of_stays k5)) (.cons (.sym ⟨_, e5, rfl, _, rfl⟩) .nil)).mono (TupKeep.of_stays k6)) (by simp)) ?_⟩
    rintro r2 h7 tk7 k7 hv
    have S7 := S6.keeps (fun b o e => k7 b o (fun q => nomatch q) e)
    repeat (first | tbr_iter "zst")
    refine r_ret S7 kg ?_
    exact ⟨⟨.typed x, fun z hz => by simp [Place.xs] at hz; rcases hz with rfl; assumption, hv⟩, (S7.N _ (.head _)).1⟩
  · repeat (first | tbr_iter "zst" | (with_reducible first|refine lo300_spring ‹_› ?_|(refine so300_spring ‹_› ?_;intro _ _ _ _)|refine lo300_way ‹_› ?_|(refine so300_way ‹_› ?_;intro _ _ _ _)|refine ca300_law_drop ‹_› (by with_unfolding_all rfl) (by with_unfolding_all rfl) ?_ (by with_unfolding_all rfl)|refine lo300_law_drop ‹_› ?_|refine ca300_law_tree ‹_› (by with_unfolding_all rfl) (by with_unfolding_all rfl) ?_ (by with_unfolding_all rfl)|refine lo300_law_tree ‹_› ?_|refine ca300_law_name ‹_› (by with_unfolding_all rfl) (by with_unfolding_all rfl) ?_ (by with_unfolding_all rfl)|refine lo300_law_name ‹_› ?_) | tbr_iter "zic" | tbr_iter "zif" | tbr_iter "zcb")
    refine ⟨S3.kin, r_use (sp_name (R'.le (by decide)) B (fun b o e => S3.F.keep b o (hg b o e)) (S3.N _ (.head _)).1 hn) ?_⟩
    rintro r h4 tk4 k4 ⟨⟨x, hx, ht⟩, x4⟩
    have S4 := S3.one ⟨_, .head _⟩ k4 x4
    repeat (first | tbr_iter "zst" | (with_reducible first|refine lo300_spring ‹_› ?_|(refine so300_spring ‹_› ?_;intro _ _ _ _)|refine lo300_way ‹_› ?_|(refine so300_way ‹_› ?_;intro _ _ _ _)|refine ca300_law_drop ‹_› (by with_unfolding_all rfl) (by with_unfolding_all rfl) ?_ (by with_unfolding_all rfl)|refine lo300_law_drop ‹_› ?_|refine ca300_law_tree ‹_› (by with_unfolding_all rfl) (by with_unfolding_all rfl) ?_ (by with_unfolding_all rfl)|refine lo300_law_tree ‹_› ?_|refine ca300_law_name ‹_› (by with_unfolding_all rfl) (by with_unfolding_all rfl) ?_ (by with_unfolding_all rfl)|refine lo300_law_name ‹_› ?_))
    refine r_newTuple ?_ (by exact Nat.le_of_ble_eq_true rfl)
    intro h5 a' k5 _ e5
    have S5 := S4.keeps k5
    repeat (first | tbr_iter "zst" | (with_reducible first|refine lo300_spring ‹_› ?_|(refine so300_spring ‹_› ?_;intro _ _ _ _)|refine lo300_way ‹_› ?_|(refine so300_way ‹_› ?_;intro _ _ _ _)|refine ca300_law_drop ‹_› (by with_unfolding_all rfl) (by with_unfolding_all rfl) ?_ (by with_unfolding_all rfl)|refine lo300_law_drop ‹_› ?_|refine ca300_law_tree ‹_› (by with_unfolding_all rfl) (by with_unfolding_all rfl) ?_ (by with_unfolding_all rfl)|refine lo300_law_tree ‹_› ?_|refine ca300_law_name ‹_› (by with_unfolding_all rfl) (by with_unfolding_all rfl) ?_ (by with_unfolding_all rfl)|refine lo300_law_name ‹_› ?_))
    refine r_newList ?_ (by exact Nat.le_of_ble_eq_true rfl)
    intro h6 a k6 _ e6
    have S6 := S5.keeps k6
    repeat (first | tbr_iter "zst" | (with_reducible first|refine lo300_spring ‹_› ?_|(refine so300_spring ‹_› ?_;intro _ _ _ _)|refine lo300_way ‹_› ?_|(refine so300_way ‹_› ?_;intro _ _ _ _)|refine ca300_law_drop ‹_› (by with_unfolding_all rfl) (by with_unfolding_all rfl) ?_ (by with_unfolding_all rfl)|refine lo300_law_drop ‹_› ?_|refine ca300_law_tree ‹_› (by with_unfolding_all rfl) (by with_unfolding_all rfl) ?_ (by with_unfolding_all rfl)|refine lo300_law_tree ‹_› ?_|refine ca300_law_name ‹_› (by with_unfolding_all rfl) (by with_unfolding_all rfl) ?_ (by with_unfolding_all rfl)|refine lo300_law_name ‹_› ?_))
    refine ⟨S6.kin, r_use (sp_tree (R'.le (by decide)) B (fun b o e => S6.F.keep b o (hg b o e)) (vs := [r, .ref a']) ⟨_, e6, rfl, _, rfl⟩ ((TreesAt.cons (ht.mono (TupKeep.of_stays k5)) (.cons (.sym ⟨_, e5, rfl, _, rfl⟩) .nil)).mono (TupKeep.of_stays k6)) (by simp)) ?_⟩
    rintro r2 h7 tk7 k7 hv
    have S7 := S6.keeps (fun b o e => k7 b o (fun q => nomatch q) e)
    repeat (first | tbr_iter "zst")
    refine r_ret S7 kg ?_
    exact ⟨⟨.dot x, fun z hz => by simp [Place.xs] at hz, hv⟩, (S7.N _ (.head _)).1⟩
  · rcases kk with rfl | rfl | rfl <;> (
      repeat (first | tbr_iter "zst" | (with_reducible first|refine lo300_spring ‹_› ?_|(refine so300_spring ‹_› ?_;intro _ _ _ _)|refine lo300_way ‹_› ?_|(refine so300_way ‹_› ?_;intro _ _ _ _)|refine ca300_law_drop ‹_› (by with_unfolding_all rfl) (by with_unfolding_all rfl) ?_ (by with_unfolding_all rfl)|refine lo300_law_drop ‹_› ?_|refine ca300_law_tree ‹_› (by with_unfolding_all rfl) (by with_unfolding_all rfl) ?_ (by with_unfolding_all rfl)|refine lo300_law_tree ‹_› ?_|refine ca300_law_name ‹_› (by with_unfolding_all rfl) (by with_unfolding_all rfl) ?_ (by with_unfolding_all rfl)|refine lo300_law_name ‹_› ?_) | tbr_iter "zic" | tbr_iter "zif" | tbr_iter "zcb")
      refine ⟨S3.kin, r_use (sp_name (R'.le (by decide)) B (fun b o e => S3.F.keep b o (hg b o e)) (S3.N _ (.head _)).1 hn) ?_⟩
      rintro r h4 tk4 k4 ⟨⟨x, hx, ht⟩, x4⟩
      have S4 := S3.one ⟨_, .head _⟩ k4 x4
      repeat (first | tbr_iter "zst")
      refine r_ret S4 kg ?_
      exact ⟨⟨.nm x, fun z hz => by simp [Place.xs] at hz; rcases hz with rfl; assumption, ht⟩, (S4.N _ (.head _)).1⟩)
end

/-- the lists: told once -/
noncomputable def pone (l : List Str) (x : Str) : List Str := if l.any (· == x) then l else l ++ [x]
noncomputable def putO (l ns : List Str) : List Str := ns.foldl pone l
noncomputable abbrev Ls := List Str × List Str × List Str
inductive Kd where
  | a | l | g
noncomputable abbrev Ev := Kd × List Str
noncomputable def evt (s : Ls) (e : Ev) : Ls := match e.1 with
  | .a => (putO s.1 e.2, s.2.1, s.2.2)
  | .l => (s.1, putO s.2.1 e.2, s.2.2)
  | .g => (s.1, s.2.1, putO s.2.2 e.2)
noncomputable def run (es : List Ev) (s : Ls) : Ls := es.foldl evt s
theorem run_append (es fs : List Ev) (s : Ls) : run (es ++ fs) s = run fs (run es s) := List.foldl_append
theorem putO_append (l ns ms : List Str) : putO l (ns ++ ms) = putO (putO l ns) ms := List.foldl_append
theorem any_eq {l : List Str} {x : Str} : (l.any (· == x)) = true ↔ x ∈ l := by
  rw [List.any_eq_true]
  exact ⟨fun ⟨y, h, e⟩ => (beq_iff_eq.mp e) ▸ h, fun h => ⟨x, h, beq_iff_eq.mpr rfl⟩⟩
theorem pone_mem {l : List Str} {x : Str} (h : x ∈ l) : pone l x = l := by rw [pone, if_pos (any_eq.mpr h)]
theorem pone_new {l : List Str} {x : Str} (h : x ∉ l) : pone l x = l ++ [x] := by rw [pone, if_neg fun q => h (any_eq.mp q)]
theorem mem_pone {l : List Str} {x y : Str} : y ∈ pone l x ↔ y ∈ l ∨ y = x := by
  by_cases h : x ∈ l
  · rw [pone_mem h]; exact ⟨.inl, fun q => q.elim id fun e => e ▸ h⟩
  · rw [pone_new h, List.mem_append, List.mem_singleton]
theorem mem_putO {l ns : List Str} {y : Str} : y ∈ putO l ns ↔ y ∈ l ∨ y ∈ ns := by
  induction ns generalizing l with
  | nil => simp [putO]
  | cons n r ih =>
    show y ∈ putO (pone l n) r ↔ _
    rw [ih, mem_pone, List.mem_cons, or_assoc]
/-- good lists: of the five names, each once -/
noncomputable def Gd (l : List Str) : Prop := l.Nodup ∧ ∀ x ∈ l, x ∈ names
theorem Gd.nil : Gd [] := ⟨List.nodup_nil, fun _ h => nomatch h⟩
theorem Gd.pone {l : List Str} {x : Str} (g : Gd l) (h : x ∈ names) : Gd (pone l x) := by
  by_cases q : x ∈ l
  · rw [pone_mem q]; exact g
  · rw [pone_new q]
    refine ⟨List.nodup_append.mpr ⟨g.1, by simp, fun a ha b hb e => q (by rw [List.mem_singleton.mp hb] at e; exact e ▸ ha)⟩, fun y hy => ?_⟩
    rcases List.mem_append.mp hy with hy | hy
    · exact g.2 y hy
    · rw [List.mem_singleton.mp hy]; exact h
theorem Gd.putO {l ns : List Str} (g : Gd l) (h : ∀ x ∈ ns, x ∈ names) : Gd (putO l ns) := by
  induction ns generalizing l with
  | nil => exact g
  | cons n r ih => exact ih (g.pone (h n (.head _))) fun x hx => h x (.tail _ hx)
theorem len_le : ∀ (l m : List Str), l.Nodup → (∀ x ∈ l, x ∈ m) → l.length ≤ m.length
  | [], _, _, _ => Nat.zero_le _
  | x :: r, m, hn, hs => by
    have hx := hs x (.head _)
    have hn' := List.nodup_cons.mp hn
    have := len_le r (m.erase x) hn'.2 fun y hy => (List.mem_erase_of_ne (fun e : y = x => hn'.1 (e ▸ hy))).mpr (hs y (.tail _ hy))
    rw [List.length_erase_of_mem hx] at this
    have pos : 0 < m.length := List.length_pos_of_mem hx
    rw [List.length_cons]; omega
theorem Gd.len {l : List Str} (g : Gd l) : l.length ≤ 5 := len_le l names g.1 g.2
noncomputable def Gds (s : Ls) : Prop := Gd s.1 ∧ Gd s.2.1 ∧ Gd s.2.2
theorem Gds.evt {s : Ls} {e : Ev} (g : Gds s) (h : ∀ x ∈ e.2, x ∈ names) : Gds (evt s e) := by
  obtain ⟨k, ns⟩ := e
  cases k with
  | a => exact ⟨g.1.putO h, g.2.1, g.2.2⟩
  | l => exact ⟨g.1, g.2.1.putO h, g.2.2⟩
  | g => exact ⟨g.1, g.2.1, g.2.2.putO h⟩
theorem putO_once (l ns : List Str) : putO l (putO [] ns) = putO l ns := by
  suffices h : ∀ (ms : List Str) (m : List Str), putO l (putO m ms) = putO (putO l m) ms from h ns []
  intro ms
  induction ms with
  | nil => intro m; rfl
  | cons n r ih =>
    intro m
    show putO l (putO (pone m n) r) = putO (pone (putO l m) n) r
    rw [ih]
    congr 1
    by_cases q : n ∈ m
    · rw [pone_mem q, pone_mem (mem_putO.mpr (.inr q))]
    · rw [pone_new q, putO_append]; rfl
/-- trees of the law, what the walk tells of them; n: how many are visited -/
noncomputable def opsA : List Str := [S "=", S "+="]
noncomputable def wrd (b : Bool) : Str := if b then S "local" else S "global"
noncomputable def kd (b : Bool) : Kd := if b then .l else .g
noncomputable def firsts : List Str := [S "while", S "do"]
noncomputable def skips : List Str := [S "->", S "let", S "comprehension", S "try"]
noncomputable def plains : List Str := [S "block", S "if", S "call", S "parameters", S "tuple", S "::", S "."]
mutual
inductive Wk : Nat → T → List Ev → Prop
  | sym {x : Str} : Wk 1 (.sym x) []
  | int : Wk 1 .int []
  | asg {op : Str} {P : Place} {v : T} {n : Nat} {es : List Ev} : op ∈ opsA → P.ok → Wks n [P.t, v] es → Wk (n + 1) (.node op [P.t, v]) ((.a, P.xs) :: es)
  | told {b : Bool} {x : Str} {t : T} {n : Nat} {es : List Ev} : t = .sym x ∨ t = .node (S "=") [.sym x, .int] → x ∈ names → Wks n [t] es → Wk (n + 1) (.node (wrd b) [t]) ((kd b, [x]) :: es)
  | fn {x : Str} {b : T} : x ∈ names → Wk 1 (.node (S "function") [.node (S "call") [.sym x, .sym (S "z")], b]) [(.a, [x])]
  | forr {x : Str} {v b : T} {n : Nat} {es : List Ev} : Wk n v es → Wk (n + 1) (.node (S "for") [.node (S "in") [.sym x, v], b]) es
  | first {h : Str} {v r : T} {n : Nat} {es : List Ev} : h ∈ firsts → Wk n v es → Wk (n + 1) (.node h [v, r]) es
  | skip {h : Str} {ps : List T} : h ∈ skips → Wk 1 (.node h ps) []
  | plain {h : Str} {ps : List T} {n : Nat} {es : List Ev} : h ∈ plains → Wks n ps es → Wk (n + 1) (.node h ps) es
  | kw {x : Str} {v : T} {n : Nat} {es : List Ev} : Wk n v es → Wk (n + 2) (.node (S "kw") [.sym x, v]) es
inductive Wks : Nat → List T → List Ev → Prop
  | nil : Wks 0 [] []
  | cons {n m : Nat} {t : T} {ts : List T} {es fs : List Ev} : Wk n t es → Wks m ts fs → Wks (n + m) (t :: ts) (es ++ fs)
end
theorem Wk.pos {n : Nat} {t : T} {es : List Ev} (h : Wk n t es) : 0 < n := by cases h <;> omega
theorem Wks.len {n : Nat} {ts : List T} {es : List Ev} (h : Wks n ts es) : ts.length ≤ n := by
  induction ts generalizing n es with
  | nil => exact Nat.zero_le _
  | cons t r ih =>
    cases h with
    | cons a b => have := a.pos; have := ih b; rw [List.length_cons]; omega
theorem Wks.append {n m : Nat} {ts us : List T} {es fs : List Ev} (h : Wks n ts es) (h' : Wks m us fs) : Wks (n + m) (ts ++ us) (es ++ fs) := by
  induction ts generalizing n es with
  | nil => cases h; rw [Nat.zero_add]; exact h'
  | cons t r ih =>
    cases h with
    | cons a b => rw [List.append_assoc, Nat.add_assoc]; exact .cons a (ih b)
theorem Wks.one {n : Nat} {t : T} {es : List Ev} (h : Wk n t es) : Wks n [t] es := by
  have := Wks.cons h .nil
  rwa [Nat.add_zero, List.append_nil] at this
theorem Wks.of_one {n : Nat} {t : T} {es : List Ev} (h : Wks n [t] es) : Wk n t es := by
  cases h with
  | cons a b => cases b; rwa [Nat.add_zero, List.append_nil]
noncomputable def evOk (es : List Ev) : Prop := ∀ e ∈ es, ∀ x ∈ e.2, x ∈ names
theorem Wks.ok {n : Nat} {ts : List T} {es : List Ev} (h : Wks n ts es) : evOk es :=
  Wks.rec (motive_1 := fun _ _ es _ => evOk es) (motive_2 := fun _ _ es _ => evOk es) (fun _ h => nomatch h) (fun _ h => nomatch h)
    (fun _ p _ ih e h => (List.mem_cons.mp h).elim (fun q => q ▸ p) (ih e)) (fun _ p _ ih e h => (List.mem_cons.mp h).elim (fun q x hx => by subst q; rw [List.mem_singleton.mp hx]; exact p) (ih e))
    (fun p e h x hx => by rw [List.mem_singleton.mp h] at hx; rw [List.mem_singleton.mp hx]; exact p) (fun _ ih => ih) (fun _ _ ih => ih) (fun _ _ h => nomatch h) (fun _ _ ih => ih) (fun _ ih => ih)
    (fun _ h => nomatch h) (fun _ _ i j e h => (List.mem_append.mp h).elim (i e) (j e)) h
theorem Wk.ok {n : Nat} {t : T} {es : List Ev} (h : Wk n t es) : evOk es := (Wks.one h).ok
theorem Gds.run {es : List Ev} {s : Ls} (g : Gds s) (h : evOk es) : Gds (run es s) := by
  induction es generalizing s with
  | nil => exact g
  | cons e r ih => exact ih (g.evt (h e (.head _))) fun e' he => h e' (.tail _ he)
theorem Place.wk (P : Place) : ∃ n, n ≤ 3 ∧ Wk n P.t [] := by
  have two : ∀ x y : Str, Wks 2 [.sym x, .sym y] [] := fun x y => .cons (es := []) (n := 1) (m := 1) .sym (Wks.one .sym)
  cases P with
  | nm x => exact ⟨1, by decide, .sym⟩
  | tup x y => exact ⟨3, by decide, .plain (by decide) (two x y)⟩
  | typed x => exact ⟨3, by decide, .plain (by decide) (two _ _)⟩
  | dot x => exact ⟨3, by decide, .plain (by decide) (two _ _)⟩

section
variable {w : World} {A : Around} {s : Shared} {h₀ : Heap}
theorem ints_at {vs : List Value} {ns : List Int} (x : IntsAre vs ns) : ∀ {k : Nat}, k < vs.length → ∃ n t, vs[k]? = some (.int n t) := by
  induction x with
  | nil => exact fun h => absurd h (Nat.not_lt_zero _)
  | cons n t _ ih => exact fun {k} h => match k, h with | 0, _ => ⟨n, t, rfl⟩ | _ + 1, h => ih (Nat.lt_of_succ_lt_succ h)
theorem m_len {E : Value → Shared → Prop} {h : Heap} {tk : Nat} {l : Addr} {vs : List Value} {Q : Value → Shared → Prop} (hl : h.IsList l vs.toArray) (hz : vs.length < 2 ^ 62) (q : ∀ t tk', Q (.int (vs.length : Nat) t) (up s h tk')) :
    wpAny (model PW w) A (call (.builtin "len") [.ref l]) Q E (up s h tk) := by
  refine len_list (s := up s h tk) hl ?_ ?_
  · rw [List.size_toArray]
    have : (2 : Nat) ^ 62 = 4611686018427387904 := by decide
    have : (2 : Int) ^ 63 = 9223372036854775808 := by decide
    omega
  · have := q (tk + 1) (tk + 1 + 1)
    rw [List.size_toArray]
    exact this
theorem m_abs {E : Value → Shared → Prop} {h : Heap} {tk : Nat} {a : Int} {t : Nat} {Q : Value → Shared → Prop} (q : ∀ t tk', Q (.int (if a < 0 then -a else a) t) (up s h tk')) :
    wpAny (model PW w) A (call (.builtin "abs") [.int a t]) Q E (up s h tk) := call_abs_int (s := up s h tk) fun u tk' => q u tk'
theorem r_mid {M : Model} {α : Type} {E : Value → Shared → Prop} {s₁ : Shared} {t : Sem α} {Q : α → Shared → Prop} (P : α → Heap → Prop) (h1 : wpAny M A t (fun v s' => ∃ h tk, s' = up s h tk ∧ P v h) E s₁) (h2 : ∀ v h tk, P v h → Q v (up s h tk)) : wpAny M A t Q E s₁ :=
  wpAny_mono h1 (fun v s' ⟨h, tk, e, p⟩ => e ▸ h2 v h tk p) fun _ _ e => e
theorem none_of {g : Heap} {a : Addr} (kg : ∀ b o, b ∉ (([] : Led).map (·.1)) → s.heap.get? b = some o → g.get? b = some o) (e : g.get? a = none) : s.heap.get? a = none := by
  cases q : s.heap.get? a with
  | none => rfl
  | some o => rw [kg a o (fun q => nomatch q) q] at e; cases e
theorem sp_spring {l : Addr} {vs : List Value} {ns : List Int} {k : Nat} {tk₀ : Nat} (R : Room 1 A) (B : Bs w h₀) (k₀ : h₀.StaysIn s.heap) (hl : s.heap.IsList l vs.toArray) (hi : IntsAre vs ns) (hz : vs.length < 2 ^ 62) (hk : k < 10) :
    wpAny (model PW w) A (call (.ref 272) [.ref l, .int (k : Nat) tk₀]) (Ret s [] fun r h' => ∃ a, r = .ref a ∧ s.heap.get? a = none ∧ Has h' (a, isSp)) NoE s := by
  refine en272 R B k₀ [] (fun p hp => nomatch hp) ?_
  intro g L h₁ tk SS hg kg kg' k₁ R'
  have hl₁ : h₁.IsList l vs.toArray := hl.at fun o e => k₁ _ _ e
  refine x_asg ?_ (by rfl)
  refine r_mid (s := s) (fun v h2 => ∃ n t, 0 ≤ n ∧ v = .int n t ∧ St w g L (V272 (some (.ref l)) (some (.int (k : Nat) tk₀)) none) [] h2 ∧ h₁.StaysIn h2) ?_ ?_
  · repeat (first | tbr_iter "zst" | (with_reducible first|refine lo272_script ‹_› ?_|(refine so272_script ‹_› ?_;intro _ _ _ _)|refine lo272_k ‹_› ?_|(refine so272_k ‹_› ?_;intro _ _ _ _)|refine lo272_number ‹_› ?_|(refine so272_number ‹_› ?_;intro _ _ _ _)|refine lo272_len ‹_› ?_|refine lo272_abs ‹_› ?_) | tbr_iter "zcb")
    refine m_len hl₁ hz ?_
    intro t2 tk2
    repeat (first | tbr_iter "zst" | (with_reducible first|refine lo272_script ‹_› ?_|(refine so272_script ‹_› ?_;intro _ _ _ _)|refine lo272_k ‹_› ?_|(refine so272_k ‹_› ?_;intro _ _ _ _)|refine lo272_number ‹_› ?_|(refine so272_number ‹_› ?_;intro _ _ _ _)|refine lo272_len ‹_› ?_|refine lo272_abs ‹_› ?_) | tbr_iter "zcb" | tbr_iter "zic")
    by_cases q : ((k : Nat) : Int) < (vs.length : Nat)
    · refine ite_pos (by simpa using q) ?_
      repeat (first | tbr_iter "zst" | (with_reducible first|refine lo272_script ‹_› ?_|(refine so272_script ‹_› ?_;intro _ _ _ _)|refine lo272_k ‹_› ?_|(refine so272_k ‹_› ?_;intro _ _ _ _)|refine lo272_number ‹_› ?_|(refine so272_number ‹_› ?_;intro _ _ _ _)|refine lo272_len ‹_› ?_|refine lo272_abs ‹_› ?_) | tbr_iter "zcb" | tbr_iter "zic")
      obtain ⟨n, tn, hn⟩ := ints_at hi (k := k) (by omega)
      refine l_item hl₁ (by omega) (by omega) hn ?_ (by with_unfolding_all rfl)
      repeat (first | tbr_iter "zst" | tbr_iter "zcb")
      refine m_abs ?_
      intro t3 tk3
      refine ⟨_, _, rfl, _, _, ?_, rfl, SS, fun _ _ e => e⟩
      split <;> omega
    · refine ite_neg (by simpa using q) ?_
      repeat (first | tbr_iter "zst")
      exact ⟨_, _, rfl, _, _, by decide, rfl, SS, fun _ _ e => e⟩
  rintro v h2 tk2 ⟨n, t, n0, rfl, S2, k2⟩
  refine so272_number S2 ?_
  intro h3 tk3 S3 k3
  repeat (first | tbr_iter "zst" | (with_reducible first|refine lo272_script ‹_› ?_|(refine so272_script ‹_› ?_;intro _ _ _ _)|refine lo272_k ‹_› ?_|(refine so272_k ‹_› ?_;intro _ _ _ _)|refine lo272_number ‹_› ?_|(refine so272_number ‹_› ?_;intro _ _ _ _)|refine lo272_len ‹_› ?_|refine lo272_abs ‹_› ?_) | tbr_iter "zcb" | tbr_iter "zic" | tbr_iter "zio")
  have hk' : ((k : Nat) : Int) < 10 := by omega
  refine i_mul (by mul_fits) ?_
  intro t3 tk3
  have c0 := Int.emod_nonneg n (show (1000357 : Int) ≠ 0 by decide)
  have c1 := Int.emod_lt_of_pos n (show (0 : Int) < 1000357 by decide)
  rw [← Int.fmod_eq_emod_of_nonneg _ (by decide)] at c0 c1
  generalize n.fmod 1000357 = d at c0 c1
  repeat (first | tbr_iter "zst" | (with_reducible first|refine lo272_script ‹_› ?_|(refine so272_script ‹_› ?_;intro _ _ _ _)|refine lo272_k ‹_› ?_|(refine so272_k ‹_› ?_;intro _ _ _ _)|refine lo272_number ‹_› ?_|(refine so272_number ‹_› ?_;intro _ _ _ _)|refine lo272_len ‹_› ?_|refine lo272_abs ‹_› ?_) | tbr_iter "zio")
  refine i_mul (by mul_fits) ?_
  intro t4 tk4
  repeat (first | tbr_iter "zst" | (with_reducible first|refine lo272_script ‹_› ?_|(refine so272_script ‹_› ?_;intro _ _ _ _)|refine lo272_k ‹_› ?_|(refine so272_k ‹_› ?_;intro _ _ _ _)|refine lo272_number ‹_› ?_|(refine so272_number ‹_› ?_;intro _ _ _ _)|refine lo272_len ‹_› ?_|refine lo272_abs ‹_› ?_) | tbr_iter "zio")
  refine r_newList ?_ (by exact Nat.le_of_ble_eq_true rfl)
  intro h4 a k4 ea e4
  have e0 := Int.emod_nonneg ((d + 59 * ↑k + 13) * 733) (show (1999733 : Int) ≠ 0 by decide)
  have e1 := Int.emod_lt_of_pos ((d + 59 * ↑k + 13) * 733) (show (0 : Int) < 1999733 by decide)
  rw [← Int.fmod_eq_emod_of_nonneg _ (by decide)] at e0 e1
  refine r_ret (S3.keeps k4) kg ⟨a, rfl, ?_, Has.of_sp n0 e0 e1 ⟨_, e4, rfl, _, rfl⟩⟩
  exact none_of kg (ea ▸ S3.fresh.1)
end

noncomputable def lvl (d : Nat) : Nat := match d with | 0 => 1 | d + 1 => 3 * lvl d + 5
noncomputable abbrev envS (L : Addr) : Env := envX (S "_law_some") (fnS (stAt 32)) L 305 (.ref 304) [(S "deep", L + 1 + 1), (S "spring", L + 1)]
theorem envS_eq (L : Addr) : envOfC (S "_law_some") (fnS (stAt 32)) L 305 (.ref 304) = envS L := by
  have e : cellsFrom (L + 1) (fnS (stAt 32)).names [] = [(S "deep", L + 1 + 1), (S "spring", L + 1)] := by kernel_rfl
  rw [envOfC, e]
section
variable {w : World} {A : Around} {s : Shared} {h₀ : Heap} {E : Value → Shared → Prop}
theorem en305 {v0 v1 v2 : Value} {Q : Value → Shared → Prop} {n : Nat} (R : Room (n + 1) A) (B : Bs w h₀) (k₀ : h₀.StaysIn s.heap) (W : Led) (hW : ∀ p ∈ W, Has s.heap p ∧ h₀.get? p.1 = none)
    (h : ∀ g L h₁ tk, St w g L (VG226 (some v2)) ((L + 1 + 1, isCell v1) :: (L + 1, isCell v0) :: W) h₁ → (∀ p ∈ W, p.1 < L) → h₀.StaysIn g → (∀ b o, b ∉ W.map (·.1) → s.heap.get? b = some o → g.get? b = some o) → (∀ b o, g.get? b = some o → s.heap.get? b = some o) →
      s.heap.StaysIn h₁ → Room n (A.deeper (envS L)) → wpAny (model PW w) (A.deeper (envS L)) (execs (fnB (stAt 32)) (envS L))
        (retK Q) NoE (up s h₁ tk)) :
    wpAny (model PW w) A (call (.ref 305) [v0, v1, v2]) Q E s := by
  refine r_enterC (binds := [(S "spring", v0), (S "deep", v1), (S "most", v2)]) (f305 _) (c305 _) R B k₀ W hW (BindsTo.of_eq (by rfl)) (by kernel_rfl) (by decide +kernel) (by kernel_rfl) (by kernel_rfl) (by kernel_rfl) ?_
  intro g L h₁ tk cells Bg F C hc hw hlt hg kg kg' k₁ R'
  rw [envS_eq] at F C R' ⊢
  have e : cellsFrom (L + 1) (fnS (stAt 32)).names [] = [(S "deep", L + 1 + 1), (S "spring", L + 1)] := by kernel_rfl
  rw [e] at C
  obtain ⟨o, o', rfl, d, d'⟩ := C.two
  have e1 : bindC (envS L).kindOf [(S "spring", v0), (S "deep", v1), (S "most", v2)] (fun _ => none) (S "deep") = some v1 := by kernel_rfl
  have e2 : bindC (envS L).kindOf [(S "spring", v0), (S "deep", v1), (S "most", v2)] (fun _ => none) (S "spring") = some v0 := by kernel_rfl
  have e3 : (bindL (envS L).kindOf [(S "spring", v0), (S "deep", v1), (S "most", v2)] fun _ => none) = fun y => if y = S "most" then some v2 else (mp []) y := by kernel_rfl
  rw [e1] at d; rw [e2] at d'; rw [e3, mp_cons] at F
  refine h g L h₁ tk ⟨Bg, F, fun p hp => ?_⟩ hlt hg kg kg' k₁ R'
  rcases List.mem_cons.mp hp with rfl | hp
  · have := hc _ (.head _); exact ⟨⟨_, this.1, d⟩, this.2⟩
  · rcases List.mem_cons.mp hp with rfl | hp
    · have := hc _ (.tail _ (.head _)); exact ⟨⟨_, this.1, d'⟩, this.2⟩
    · exact hw p hp
theorem none_of1 {g h : Heap} {a sp : Addr} {P : OP} (kg : ∀ b o, b ∉ (([(sp, P)] : Led).map (·.1)) → s.heap.get? b = some o → g.get? b = some o) (e : g.get? a = none) (ne : a ≠ sp) : s.heap.get? a = none := by
  cases q : s.heap.get? a with
  | none => rfl
  | some o => rw [kg a o (fun q => ne (List.mem_singleton.mp q)) q] at e; cases e
theorem r_cell {M : Model} {w : World} {A : Around} {E : Value → Shared → Prop} {s : Shared} {g : Heap} {L a c : Addr} {l : LM} {led : Led} {cn : Str} {cs : PySem.Scope} {ccd : Value} {cl : List (Str × Addr)} {x : Str} {pos : Pos} {v : Value} {Q : Value → Shared → Prop} (SS : St w g L l led s.heap) (hm : (c, isCell v) ∈ led) (hc : cl.lookup x = some c) (h : Q v s)
    (hk : cs.kind = .function) (hx : (envX cn cs L a ccd cl).kindOf x = some .cell) (hd : (x == ("__debug__" : Str)) = false) : wpAny M A (eval (.Name x pos) (envX cn cs L a ccd cl)) Q E s :=
  wpAny_Name (wpAny_loadName_cell hk hx hc (SS.N _ hm).1 h) hd
theorem m_range {w : World} {A : Around} {E : Value → Shared → Prop} {s : Shared} {h : Heap} {tk : Nat} {n : Int} {t : Nat} {Q : Value → Shared → Prop} (q : ∀ h' a tk' t1 t2 t3, IsRange h' a 0 n 1 t1 t2 t3 → h.StaysIn h' → Q (.ref a) (up s h' tk')) :
    wpAny (model PW w) A (call (.type "range") [.int n t]) Q E (up s h tk) :=
  call_range_1 (s := up s h tk) (q _ _ _ _ _ _ (IsRange.new ..) fun _ _ e => Heap.get?_push_of_some _ e)
theorem forIn_nil_ {M : Model} {A : Around} {E : Value → Shared → Prop} {s : Shared} {α : Type} {f : α → Bool → Sem (ForInStep Bool)} {Q : Bool → Shared → Prop} (h : Q true s) : wpAny M A (forIn ([] : List α) true f) Q E s := wpAny_pure h
theorem if_true_ {P R : Prop} (h : P) : if true = true then P else R := by rw [if_pos rfl]; exact h
noncomputable def DrawnAt (w : World) (d : Nat) : Prop := ∀ {A : Around} {s : Shared} {h₀ : Heap} {sp : Addr} {td : Nat}, Room (2 * d + 4) A → Bs w h₀ → h₀.StaysIn s.heap → Has s.heap (sp, isSp) → h₀.get? sp = none →
  wpAny (model PW w) A (call (.ref 312) [.ref sp, .int (d : Nat) td]) (Ret s [sp] fun r h' => (∃ t n es, n ≤ lvl d ∧ TreeAt h' r t ∧ Wk n t es) ∧ Has h' (sp, isSp)) NoE s
theorem sp_some {sp : Addr} {d m : Nat} {td tm : Nat} (D : DrawnAt w d) (R : Room (2 * d + 5) A) (B : Bs w h₀) (k₀ : h₀.StaysIn s.heap) (hs : Has s.heap (sp, isSp)) (hn : h₀.get? sp = none) (hm : m < 10) :
    wpAny (model PW w) A (call (.ref 305) [.ref sp, .int (d : Nat) td, .int (m : Nat) tm]) (Ret s [sp] fun r h' => (∃ a vs ts es n, r = .ref a ∧ Has h' (a, isPL vs) ∧ vs.length ≤ m ∧ TreesAt h' vs ts ∧ Wks n ts es ∧ n ≤ m * lvl d) ∧ Has h' (sp, isSp)) NoE s := by
  refine en305 R B k₀ [(sp, isSp)] (fun p hp => by rw [List.mem_singleton.mp hp]; exact ⟨hs, hn⟩) ?_
  intro g L h₁ tk SS hlt hg kg kg' k₁ R'
  refine x_ret ?_
  refine r_listcomp (cl := [(S "spring", L + 1), (S "deep", L + 1 + 1)]) (x := S "turn") (by with_unfolding_all rfl) (by decide +kernel) (by with_unfolding_all rfl) (by decide +kernel) (by with_unfolding_all rfl) ?_ (by intro x; with_unfolding_all rfl)
  have hh : (A.deeper (envS L)).handled = none := R'.1
  have c2 : (L + 1 + 1, isCell (.int (d : Nat) td)) ∈ [(L + 1 + 1, isCell (.int (d : Nat) td)), (L + 1, isCell (.ref sp)), (sp, isSp)] := .head _
  have c1 : (L + 1, isCell (.ref sp)) ∈ [(L + 1 + 1, isCell (.int (d : Nat) td)), (L + 1, isCell (.ref sp)), (sp, isSp)] := .tail _ (.head _)
  have spL : @LT.lt Nat _ sp L := hlt _ (.head _)
  have n2 : L + 1 + 1 ≠ sp := by intro q; have q' : @Eq Nat (L + 1 + 1) sp := q; omega
  have n1 : L + 1 ≠ sp := by intro q; have q' : @Eq Nat (L + 1) sp := q; omega
  refine Call_ ?_ (by with_unfolding_all rfl)
  refine r_blt (v := .type "range") (s := up s h₁ tk) SS (b_range _) (by kernel_rfl) (by decide) ?_ (by kernel_rfl) (by kernel_rfl) (by kernel_rfl)
  refine PySem.Pv.callWith_type1 ?_ (by with_unfolding_all rfl) (by with_unfolding_all rfl)
  repeat (first | tbr_iter "zst")
  refine r_call (s := up s h₁ tk) SS (g_law_drop _) (kp279 _) (by kernel_rfl) (by kernel_rfl) (by kernel_rfl) (by with_unfolding_all rfl) (by with_unfolding_all rfl) ?_ (by with_unfolding_all rfl)
  repeat (first | tbr_iter "zst")
  refine r_cell (s := up s h₁ tk) SS c1 (by kernel_rfl) ?_ (by kernel_rfl) (by kernel_rfl) (by kernel_rfl)
  repeat (first | tbr_iter "zst")
  refine r_loc (s := up s h₁ tk) SS (by rfl) ?_ (by kernel_rfl) (by kernel_rfl) (by kernel_rfl)
  repeat (first | tbr_iter "zst" | tbr_iter "zio")
  refine ⟨SS.kin, r_use (sp_drop (R'.le (by omega)) B (fun b o e => SS.F.keep b o (hg b o e)) (SS.N _ (.tail _ (.tail _ (.head _)))).1 hn (by omega) (by omega)) ?_⟩
  rintro r h2 tk2 k2 ⟨⟨k, t, rfl, hk⟩, x2⟩
  have S2 : St w g L (VG226 (some (.int (m : Nat) tm))) [(L + 1 + 1, isCell (.int (d : Nat) td)), (L + 1, isCell (.ref sp)), (sp, isSp)] h2 := by
    refine SS.but k2 (fun b hb => ?_) fun p hp => ?_
    · rw [List.mem_singleton.mp hb]; exact (SS.N _ (.tail _ (.tail _ (.head _)))).2
    · rcases List.mem_cons.mp hp with rfl | hp
      · exact .inl ⟨.head _, fun q => n2 (List.mem_singleton.mp q)⟩
      · rcases List.mem_cons.mp hp with rfl | hp
        · exact .inl ⟨.tail _ (.head _), fun q => n1 (List.mem_singleton.mp q)⟩
        · rw [List.mem_singleton.mp hp]; exact .inr ⟨.head _, x2⟩
  repeat (first | tbr_iter "zst")
  refine m_range ?_
  intro h3 a tk3 t1 t2 t3 hr k3
  have S3 := S2.keeps k3
  refine ⟨h3, tk3, [], k, _, rfl, IterOf.range hh hr (by omega), by simp only [sizeLine]; omega, fun I D' C hI hD hC hCD => ?_⟩
  have ne : ∀ b o, h3.get? b = some o → b ∉ [C, D', I] := fun b o e q => by
    rcases List.mem_cons.mp q with rfl | q
    · rw [hC] at e; cases e
    · rcases List.mem_cons.mp q with rfl | q
      · rw [hD] at e; cases e
      · rw [List.mem_singleton.mp q, hI] at e; cases e
  refine ⟨fun i ys h => (∀ b o, g.get? b = some o → h.get? b = some o) ∧ Has h (sp, isSp) ∧ Has h (L + 1, isCell (.ref sp)) ∧ Has h (L + 1 + 1, isCell (.int (d : Nat) td)) ∧ ys.length ≤ i ∧ ∃ ts es n, TreesAt h ys ts ∧ Wks n ts es ∧ n ≤ i * lvl d, fun h4 k4 => ?_, ?_, ?_, ?_⟩
  · have S4 := S3.keeps k4
    exact ⟨S4.F.keep, (S4.N _ (.tail _ (.tail _ (.head _)))).1, (S4.N _ (.tail _ (.head _))).1, (S4.N _ (.head _)).1, Nat.le_refl _, [], [], 0, .nil, .nil, Nat.zero_le _⟩
  · rintro i ys h h' X ⟨j1, j2, j3, j4, j5, ts, es, n, j6, j7, j8⟩ hX hT hk
    have ks : ∀ b o, h3.get? b = some o → b ∉ X := fun b o e q => ne b o e (hX b q)
    have kp : ∀ {p : Addr × OP}, (∃ o, h3.get? p.1 = some o) → Has h p → Has h' p := fun ⟨o, e⟩ ⟨o', e', x⟩ => ⟨o', hk _ _ (ks _ _ e) e', x⟩
    have st : ∀ p ∈ [(L + 1 + 1, isCell (.int (d : Nat) td)), (L + 1, isCell (.ref sp)), (sp, isSp)], ∃ o, h3.get? p.1 = some o := fun p hp => let ⟨o, e, _⟩ := (S3.N p hp).1; ⟨o, e⟩
    exact ⟨fun b o e => hk _ _ (ks b o (S3.F.keep _ _ e)) (j1 b o e), kp (st _ (.tail _ (.tail _ (.head _)))) j2, kp (st _ (.tail _ (.head _))) j3, kp (st _ (.head _)) j4, j5, ts, es, n, j6.mono (TupKeep.of_but hT hk), j7, j8⟩
  · rintro i v ys h tk mm hi hv ⟨j1, j2, j3, j4, j5, ts, es, n, j6, j7, j8⟩ hns hm hy ⟨oI, eI⟩ ⟨oD, eD⟩
    refine forIn_nil_ ?_
    refine if_true_ ?_
    have hkin : (KK w.params).In h := S3.B.kin.keeps j1
    obtain ⟨_, _, _, _, Tp⟩ := S3.B.top
    refine Call_ ?_ (by with_unfolding_all rfl)
    refine Name_function_global (by with_unfolding_all rfl) (by kernel_rfl) (loadGlobal_global (s := up (up s h₁ tk) h tk) (Tp.g.keeps j1) (mg_of S3.B.kin Tp.g (g_law_drawn _)) ?_) (by kernel_rfl)
    refine callWith_K hkin (kp312 _) ?_ (by with_unfolding_all rfl) (by with_unfolding_all rfl)
    repeat (first | tbr_iter "zst")
    refine wpAny_Name (wpAny_loadName_cell (c := L + 1) (v := .ref sp) (by with_unfolding_all rfl) (by kernel_rfl) (by kernel_rfl) j3 ?_) (by kernel_rfl)
    repeat (first | tbr_iter "zst")
    refine wpAny_Name (wpAny_loadName_cell (c := L + 1 + 1) (v := .int (d : Nat) td) (by with_unfolding_all rfl) (by kernel_rfl) (by kernel_rfl) j4 ?_) (by kernel_rfl)
    repeat (first | tbr_iter "zst")
    refine ⟨hkin, r_use (D R' B (fun b o e => j1 b o (hg b o e)) j2 hn) ?_⟩
    rintro r h5 tk5 k5 ⟨⟨t', n', es', hn', ht', hw'⟩, x5⟩
    have sp3 : ∃ o, h3.get? sp = some o := let ⟨o, e, _⟩ := (S3.N _ (.tail _ (.tail _ (.head _)))).1; ⟨o, e⟩
    obtain ⟨o3, e3⟩ := sp3
    have nsp : ∀ b ∈ [C, D', I], b ∉ [sp] := fun b hb q => ne sp o3 e3 (List.mem_singleton.mp q ▸ hb)
    refine ⟨h5, tk5, rfl, fun b hb o e => k5 b o (nsp b (by simpa using hb)) e, fun b o e => ?_, x5, ?_, ?_, ?_, ts ++ [t'], es ++ es', n + n', (j6.mono (TupKeep.of_but (noTup_sp j2) k5)).append (.cons ht' .nil), j7.append (.one hw'), ?_⟩
    · exact k5 b o (fun q => by rw [List.mem_singleton.mp q, (SS.N _ (.tail _ (.tail _ (.head _)))).2.2] at e; cases e) (j1 b o e)
    · obtain ⟨o, e, x⟩ := j3; exact ⟨o, k5 _ _ (fun q => n1 (List.mem_singleton.mp q)) e, x⟩
    · obtain ⟨o, e, x⟩ := j4; exact ⟨o, k5 _ _ (fun q => n2 (List.mem_singleton.mp q)) e, x⟩
    · rw [List.length_append, List.length_singleton]; omega
    · rw [Nat.succ_mul]; omega
  · rintro h tk ys ⟨j1, j2, j3, j4, j5, ts, es, n, j6, j7, j8⟩ hx
    refine ⟨h, tk, rfl, fun b o nb e => j1 b o (kg b o nb e), ⟨D', ys, ts, es, n, rfl, hx, by omega, j6, j7, Nat.le_trans j8 (Nat.mul_le_mul_right _ (by omega))⟩, j2⟩
end

section
variable {w : World} {A A' : Around} {s : Shared} {h₀ g h : Heap} {L sp : Addr} {l : LM} {tk : Nat} {E : Value → Shared → Prop} {Q : Value → Shared → Prop} {n : Nat}
theorem TupKeep.of_low {led : Led} {h' : Heap} (SS : St w g L l led h) (k : ∀ b o, b ≠ L → h.get? b = some o → h'.get? b = some o) : TupKeep h h' :=
  TupKeep.of_but (noTup_ns SS.F.ns) fun b o nb e => k b o (fun q => nb (by rw [q]; exact .head _)) e
theorem u_name (SS : St w g L l [(sp, isSp)] h) (R : Room n A) (hr : 2 ≤ n) (B : Bs w h₀) (hg : h₀.StaysIn g) (hn : h₀.get? sp = none)
    (q : ∀ r h' tk' x, x ∈ names → TreeAt h' r (.sym x) → St w g L l [(sp, isSp)] h' → TupKeep h h' → Q r (up s h' tk')) : (KK w.params).In (up s h tk).heap ∧ wpAny (model PW w) A (call (.ref 293) [.ref sp]) Q E (up s h tk) := by
  refine ⟨SS.kin, r_use (sp_name (R.le hr) B (fun b o e => SS.F.keep b o (hg b o e)) (SS.N _ (.head _)).1 hn) ?_⟩
  rintro r h2 tk2 k2 ⟨⟨x, hx, ht⟩, x2⟩
  exact q r h2 tk2 x hx ht (SS.one ⟨_, .head _⟩ k2 x2) (TupKeep.of_but (noTup_sp (SS.N _ (.head _)).1) k2)
theorem u_place (SS : St w g L l [(sp, isSp)] h) (R : Room n A) (hr : 3 ≤ n) (B : Bs w h₀) (hg : h₀.StaysIn g) (hn : h₀.get? sp = none)
    (q : ∀ r h' tk' (P : Place), P.ok → TreeAt h' r P.t → St w g L l [(sp, isSp)] h' → TupKeep h h' → Q r (up s h' tk')) : (KK w.params).In (up s h tk).heap ∧ wpAny (model PW w) A (call (.ref 300) [.ref sp]) Q E (up s h tk) := by
  refine ⟨SS.kin, r_use (sp_place (R.le hr) B (fun b o e => SS.F.keep b o (hg b o e)) (SS.N _ (.head _)).1 hn) ?_⟩
  rintro r h2 tk2 k2 ⟨⟨x, hx, ht⟩, x2⟩
  exact q r h2 tk2 x hx ht (SS.one ⟨_, .head _⟩ k2 x2) (TupKeep.of_but (noTup_sp (SS.N _ (.head _)).1) k2)
theorem u_drop {m : Int} {t : Nat} (SS : St w g L l [(sp, isSp)] h) (R : Room n A) (hr : 1 ≤ n) (B : Bs w h₀) (hg : h₀.StaysIn g) (hn : h₀.get? sp = none) (m0 : 0 < m) (m1 : m < 1000)
    (q : ∀ (k : Nat) t h' tk', (k : Int) < m → St w g L l [(sp, isSp)] h' → TupKeep h h' → (∀ b o, b ∉ [sp] → h.get? b = some o → h'.get? b = some o) → Q (.int (k : Nat) t) (up s h' tk')) : (KK w.params).In (up s h tk).heap ∧ wpAny (model PW w) A (call (.ref 279) [.ref sp, .int m t]) Q E (up s h tk) := by
  refine ⟨SS.kin, r_use (sp_drop (R.le hr) B (fun b o e => SS.F.keep b o (hg b o e)) (SS.N _ (.head _)).1 hn m0 m1) ?_⟩
  rintro r h2 tk2 k2 ⟨⟨k, t, rfl, hk⟩, x2⟩
  exact q k t h2 tk2 hk (SS.one ⟨_, .head _⟩ k2 x2) (TupKeep.of_but (noTup_sp (SS.N _ (.head _)).1) k2) k2
theorem ne_sp {h : Heap} {a sp : Addr} {v : Value} {vs : List Value} (e : h.get? a = some (lstNew (v :: vs))) (hv : ∀ i t, v ≠ .int i t) (hs : Has h (sp, isSp)) : a ≠ sp := by
  rintro rfl
  obtain ⟨n, t1, c, t2, _, _, _, o, e', _, k, d⟩ := hs.sp
  rw [show h.get? a = some o from e'] at e
  cases e
  dsimp only at d
  injection d with d1
  injection (congrArg Array.toList d1) with d2
  exact hv _ _ d2
theorem u_drawn {d : Nat} {i : Int} {t : Nat} (D : DrawnAt w d) (SS : St w g L l [(sp, isSp)] h) (R : Room n A) (hr : 2 * d + 4 ≤ n) (B : Bs w h₀) (hg : h₀.StaysIn g) (hn : h₀.get? sp = none) (hi : i = (d : Nat))
    (q : ∀ r h' tk' t n es, n ≤ lvl d → Wk n t es → TreeAt h' r t → St w g L l [(sp, isSp)] h' → TupKeep h h' → Q r (up s h' tk')) : (KK w.params).In (up s h tk).heap ∧ wpAny (model PW w) A (call (.ref 312) [.ref sp, .int i t]) Q E (up s h tk) := by
  subst hi
  refine ⟨SS.kin, r_use (D (R.le hr) B (fun b o e => SS.F.keep b o (hg b o e)) (SS.N _ (.head _)).1 hn) ?_⟩
  rintro r h2 tk2 k2 ⟨⟨t, n, es, hn, ht, hw⟩, x2⟩
  exact q r h2 tk2 t n es hn hw ht (SS.one ⟨_, .head _⟩ k2 x2) (TupKeep.of_but (noTup_sp (SS.N _ (.head _)).1) k2)
theorem u_some {d : Nat} {i j : Int} {m : Nat} {t u : Nat} (D : DrawnAt w d) (SS : St w g L l [(sp, isSp)] h) (R : Room n A) (hr : 2 * d + 5 ≤ n) (B : Bs w h₀) (hg : h₀.StaysIn g) (hn : h₀.get? sp = none) (hi : i = (d : Nat)) (hj : j = (m : Nat)) (hm : m < 10)
    (q : ∀ a h' tk' vs ts n es, n ≤ m * lvl d → vs.length ≤ m → Wks n ts es → TreesAt h' vs ts → Has h' (a, isPL vs) → St w g L l [(sp, isSp)] h' → TupKeep h h' → (∀ b o, b ∉ [sp] → h.get? b = some o → h'.get? b = some o) → Q (.ref a) (up s h' tk')) : (KK w.params).In (up s h tk).heap ∧ wpAny (model PW w) A (call (.ref 305) [.ref sp, .int i t, .int j u]) Q E (up s h tk) := by
  subst hi hj
  refine ⟨SS.kin, r_use (sp_some D (R.le hr) B (fun b o e => SS.F.keep b o (hg b o e)) (SS.N _ (.head _)).1 hn hm) ?_⟩
  rintro r h2 tk2 k2 ⟨⟨a, vs, ts, es, n, rfl, hl, hz, ht, hw, hn⟩, x2⟩
  exact q a h2 tk2 vs ts n es hn hz hw ht hl (SS.one ⟨_, .head _⟩ k2 x2) (TupKeep.of_but (noTup_sp (SS.N _ (.head _)).1) k2) k2
theorem l_add {a b : Addr} {vs us : List Value} {n m : Nat} {w : World} (ha : h.get? a = some { cls := .type "list", data := .seq vs.toArray n }) (hb : h.get? b = some { cls := .type "list", data := .seq us.toArray m }) (hz : vs.length + us.length ≤ 10000)
    (q : ∀ c h' tk', h'.IsList c (vs ++ us).toArray → h.StaysIn h' → Q (.ref c) (up s h' tk')) : wpAny (model PW w) A (binaryOp .Add (.ref a) (.ref b)) Q E (up s h tk) := by
  refine P.add_list (s := up s h tk) ha hb (q _ _ tk ⟨_, Heap.get?_push_size _ rfl, rfl, 0, ?_⟩ fun _ _ e => Heap.get?_push_of_some _ e) ?_
  · simp
  · rw [List.size_toArray, List.size_toArray]; simp only [sizeLine]; omega
theorem u_tree {led : Led} {x : Str} {tx : Nat} {a : Addr} {vs : List Value} {ts : List T} (SS : St w g L l led h) (R : Room n A) (hr : 1 ≤ n) (B : Bs w h₀) (hg : h₀.StaysIn g) (hl : h.IsList a vs.toArray) (ht : TreesAt h vs ts) (hz : vs.length ≤ 10000)
    (q : ∀ r h' tk', TreeAt h' r (.node x ts) → St w g L l led h' → TupKeep h h' → Q r (up s h' tk')) : (KK w.params).In (up s h tk).heap ∧ wpAny (model PW w) A (call (.ref 286) [.str x tx, .ref a]) Q E (up s h tk) := by
  refine ⟨SS.kin, r_use (sp_tree (R.le hr) B (fun b o e => SS.F.keep b o (hg b o e)) hl ht hz) ?_⟩
  rintro r h2 tk2 k2 hv
  have k2' : h.StaysIn h2 := fun b o e => k2 b o (fun q => nomatch q) e
  exact q r h2 tk2 hv (SS.keeps k2') (TupKeep.of_stays k2')
theorem u_list {led : Led} {vs : List Value} {M : Model} (SS : St w g L l led h) (hz : vs.length ≤ 10000)
    (q : ∀ a h' tk', h'.IsList a vs.toArray → h'.get? a = some (lstNew vs) → St w g L l led h' → TupKeep h h' → Q (.ref a) (up s h' tk')) : wpAny M A (newList vs) Q E (up s h tk) :=
  r_newList (fun h' a k _ e => q a h' tk ⟨_, e, rfl, _, rfl⟩ e (SS.keeps k) (TupKeep.of_stays k)) (by simp only [sizeLine]; omega)
theorem u_sym {led : Led} {x : Str} {t u : Nat} {M : Model} (SS : St w g L l led h)
    (q : ∀ a h' tk', TreeAt h' (.ref a) (.sym x) → St w g L l led h' → TupKeep h h' → Q (.ref a) (up s h' tk')) : wpAny M A (newTuple [.str (S "sym") t, .str x u]) Q E (up s h tk) :=
  r_newTuple (fun h' a k _ e => q a h' tk (.sym ⟨_, e, rfl, _, rfl⟩) (SS.keeps k) (TupKeep.of_stays k)) (by exact Nat.le_of_ble_eq_true rfl)
theorem u_one {led : Led} {t u : Nat} {M : Model} (SS : St w g L l led h)
    (q : ∀ a h' tk', TreeAt h' (.ref a) .int → St w g L l led h' → TupKeep h h' → Q (.ref a) (up s h' tk')) : wpAny M A (newTuple [.str (S "int") t, .int 1 u]) Q E (up s h tk) :=
  r_newTuple (fun h' a k _ e => q a h' tk (.int ⟨_, e, rfl, _, rfl⟩) (SS.keeps k) (TupKeep.of_stays k)) (by exact Nat.le_of_ble_eq_true rfl)
end

theorem one_way (k : Nat) (h : 0 < k) (h4 : k < 4) (t1 t2 t3 : Nat) : ∃ op t, ([.str (S "=") t1, .str (S "=") t2, .str (S "+=") t3] : List Value)[((k : Int) - 1).toNat]? = some (.str op t) ∧ op ∈ opsA := by
  have : k = 1 ∨ k = 2 ∨ k = 3 := by omega
  rcases this with rfl | rfl | rfl
  · exact ⟨_, _, rfl, by decide⟩
  · exact ⟨_, _, rfl, by decide⟩
  · exact ⟨_, _, rfl, by decide⟩
theorem two_way (k : Nat) (h : k < 2) (t1 t2 : Nat) : ∃ b t, ([.str (S "local") t1, .str (S "global") t2] : List Value)[((k : Nat) : Int).toNat]? = some (.str (wrd b) t) := by
  have : k = 0 ∨ k = 1 := by omega
  rcases this with rfl | rfl
  · exact ⟨true, _, rfl⟩
  · exact ⟨false, _, rfl⟩
section
variable {w : World}
theorem drawn_zero : DrawnAt w 0 := by
  intro A s h₀ sp td R B k₀ hs hn
  refine en312 R B k₀ [(sp, isSp)] (fun p hp => by rw [List.mem_singleton.mp hp]; exact ⟨hs, hn⟩) ?_
  intro g L h₁ tk SS hg kg kg' k₁ R'
  refine x_asg ?_ (by rfl)
  repeat (first | tbr_iter "zst" | tbr_iter "zl312" | tbr_iter "zic" | tbr_iter "zio")
  refine ite_neg (by decide) ?_
  repeat (first | tbr_iter "zst" | tbr_iter "zl312" | tbr_iter "zic" | tbr_iter "zio")
  refine so312_way SS ?_
  intro h1 tk1 S1 k1
  have kk1 := TupKeep.of_low SS k1
  repeat (first | tbr_iter "zst" | tbr_iter "zl312" | tbr_iter "zic" | tbr_iter "zio")
  refine ite_pos (by decide) ?_
  repeat (first | tbr_iter "zst" | tbr_iter "zl312" | tbr_iter "zic" | tbr_iter "zio")
  refine u_name S1 R' (by omega) B hg hn ?_
  intro r2 h2 tk2 x2 hx2 t S2 k2
  repeat (first | tbr_iter "zst" | tbr_iter "zl312" | tbr_iter "zic" | tbr_iter "zio")
  exact r_ret S2 kg ⟨⟨_, _, _, by first | (simp only [lvl]; omega) | omega | decide, t, .sym⟩, (S2.N _ (.head _)).1⟩
theorem drawn_succ {d : Nat} (D : DrawnAt w d) (hd : d < 5) : DrawnAt w (d + 1) := by
  intro A s h₀ sp td R B k₀ hs hn
  refine en312 R B k₀ [(sp, isSp)] (fun p hp => by rw [List.mem_singleton.mp hp]; exact ⟨hs, hn⟩) ?_
  intro g L h₁ tk SS hg kg kg' k₁ R'
  refine x_asg ?_ (by rfl)
  repeat (first | tbr_iter "zst" | tbr_iter "zl312" | tbr_iter "zic" | tbr_iter "zio")
  refine ite_pos (by simp <;> omega) ?_
  repeat (first | tbr_iter "zst" | tbr_iter "zl312" | tbr_iter "zic" | tbr_iter "zio")
  refine u_drop SS R' (by omega) B hg hn (by decide) (by decide) ?_
  intro c1 t1 h1 tk1 hc1 S1 k1 j1
  repeat (first | tbr_iter "zst" | tbr_iter "zl312" | tbr_iter "zic" | tbr_iter "zio")
  refine so312_way S1 ?_
  intro h2 tk2 S2 k2
  have kk2 := TupKeep.of_low S1 k2
  repeat (first | tbr_iter "zst" | tbr_iter "zl312" | tbr_iter "zic" | tbr_iter "zio")
  by_cases q0 : c1 = 0
  · refine ite_pos (by simp <;> omega) ?_
    repeat (first | tbr_iter "zst" | tbr_iter "zl312" | tbr_iter "zic" | tbr_iter "zio")
    refine u_name S2 R' (by omega) B hg hn ?_
    intro r3 h3 tk3 x3 hx3 t S3 k3
    repeat (first | tbr_iter "zst" | tbr_iter "zl312" | tbr_iter "zic" | tbr_iter "zio")
    exact r_ret S3 kg ⟨⟨_, _, _, by first | (simp only [lvl]; omega) | omega | decide, t, .sym⟩, (S3.N _ (.head _)).1⟩
  refine ite_neg (by simp <;> omega) ?_
  repeat (first | tbr_iter "zst" | tbr_iter "zl312" | tbr_iter "zic" | tbr_iter "zio")
  by_cases q4 : c1 < 4
  · refine ite_pos (by simp <;> omega) ?_
    repeat (first | tbr_iter "zst" | tbr_iter "zl312" | tbr_iter "zic" | tbr_iter "zio")
    refine u_list S2 (by simp) ?_
    intro a3 h3 tk3 hl3 e3 S3 k3
    repeat (first | tbr_iter "zst" | tbr_iter "zl312" | tbr_iter "zic" | tbr_iter "zio")
    obtain ⟨op, top, hop, mop⟩ := one_way c1 (by omega) q4 _ _ _
    refine l_item hl3 (by omega) (by omega) hop ?_ (by with_unfolding_all rfl)
    repeat (first | tbr_iter "zst" | tbr_iter "zl312" | tbr_iter "zic" | tbr_iter "zio")
    refine u_place S3 R' (by omega) B hg hn ?_
    intro r4 h4 tk4 P4 hP4 tp S4 k4
    repeat (first | tbr_iter "zst" | tbr_iter "zl312" | tbr_iter "zic" | tbr_iter "zio")
    refine u_drawn D S4 R' (by omega) B hg hn (by omega) ?_
    intro r5 h5 tk5 T5 n5 es5 hn5 hw5 td S5 k5
    replace tp := tp.mono k5
    repeat (first | tbr_iter "zst" | tbr_iter "zl312" | tbr_iter "zic" | tbr_iter "zio")
    refine u_list S5 (by simp) ?_
    intro a6 h6 tk6 hl6 e6 S6 k6
    replace tp := tp.mono k6
    replace td := td.mono k6
    repeat (first | tbr_iter "zst" | tbr_iter "zl312" | tbr_iter "zic" | tbr_iter "zio")
    refine u_tree S6 R' (by omega) B hg hl6 (.cons tp (.cons td .nil)) (by simp) ?_
    intro r7 h7 tk7 tr S7 k7
    replace tp := tp.mono k7
    replace td := td.mono k7
    obtain ⟨m, hm, wm⟩ := P4.wk
    repeat (first | tbr_iter "zst" | tbr_iter "zl312" | tbr_iter "zic" | tbr_iter "zio")
    exact r_ret S7 kg ⟨⟨_, _, _, by first | (simp only [lvl]; omega) | omega | decide, tr, .asg mop hP4 (.cons wm (.cons hw5 .nil))⟩, (S7.N _ (.head _)).1⟩
  refine ite_neg (by simp <;> omega) ?_
  repeat (first | tbr_iter "zst" | tbr_iter "zl312" | tbr_iter "zic" | tbr_iter "zio")
  by_cases q5 : c1 = 4
  · refine ite_pos (by simp <;> omega) ?_
    repeat (first | tbr_iter "zst" | tbr_iter "zl312" | tbr_iter "zic" | tbr_iter "zio")
    refine u_name S2 R' (by omega) B hg hn ?_
    intro r3 h3 tk3 x3 hx3 t S3 k3
    refine so312_inner S3 ?_
    intro h4 tk4 S4 k4
    have kk4 := TupKeep.of_low S3 k4
    replace t := t.mono kk4
    refine x_asg ?_ (by with_unfolding_all rfl)
    refine r_mid (s := s) (fun v h => ∃ u n es, (u = .sym x3 ∨ u = .node (S "=") [.sym x3, .int]) ∧ TreeAt h v u ∧ Wk n u es ∧ n ≤ 3 ∧ St w g L (V312 (some (.ref sp)) (some (.int ((d + 1 : Nat) : Int) td)) (some (.int (c1 : Nat) t1)) (some r3) none none none none) [(sp, isSp)] h ∧ TupKeep h4 h) ?_ ?_
    · skip
      repeat (first | tbr_iter "zst" | tbr_iter "zl312" | tbr_iter "zic" | tbr_iter "zio")
      refine u_drop S4 R' (by omega) B hg hn (by decide) (by decide) ?_
      intro c5 t5 h5 tk5 hc5 S5 k5 j5
      replace t := t.mono k5
      repeat (first | tbr_iter "zst" | tbr_iter "zl312" | tbr_iter "zic" | tbr_iter "zio")
      by_cases q6 : c5 = 0
      · refine ite_pos (by simp <;> omega) ?_
        repeat (first | tbr_iter "zst" | tbr_iter "zl312" | tbr_iter "zic" | tbr_iter "zio")
        refine u_one S5 ?_
        intro a6 h6 tk6 t1 S6 k6
        replace t := t.mono k6
        repeat (first | tbr_iter "zst" | tbr_iter "zl312" | tbr_iter "zic" | tbr_iter "zio")
        refine u_list S6 (by simp) ?_
        intro a7 h7 tk7 hl7 e7 S7 k7
        replace t := t.mono k7
        replace t1 := t1.mono k7
        repeat (first | tbr_iter "zst" | tbr_iter "zl312" | tbr_iter "zic" | tbr_iter "zio")
        refine u_tree S7 R' (by omega) B hg hl7 (.cons t (.cons t1 .nil)) (by simp) ?_
        intro r8 h8 tk8 tr S8 k8
        replace t := t.mono k8
        replace t1 := t1.mono k8
        repeat (first | tbr_iter "zst" | tbr_iter "zl312" | tbr_iter "zic" | tbr_iter "zio")
        exact ⟨_, _, rfl, _, 3, _, .inr rfl, tr, .asg (P := .nm x3) (by decide) (fun z hz => by rw [List.mem_singleton.mp hz]; exact hx3) (.cons (n := 1) (m := 1) .sym (.one .int)), by decide, S8, k5.trans (k6.trans (k7.trans k8))⟩
      · refine ite_neg (by simp <;> omega) ?_
        repeat (first | tbr_iter "zst" | tbr_iter "zl312" | tbr_iter "zic" | tbr_iter "zio")
        exact ⟨_, _, rfl, _, 1, _, .inl rfl, t, .sym, by decide, S5, k5⟩
    rintro v h tk2 ⟨u, nu, es, hu, tu, wu, nu3, Sx, kx⟩
    replace t := t.mono kx
    refine so312_bound Sx ?_
    intro h5 tk5 S5 k5
    have kk5 := TupKeep.of_low Sx k5
    replace t := t.mono kk5
    replace tu := tu.mono kk5
    repeat (first | tbr_iter "zst" | tbr_iter "zl312" | tbr_iter "zic" | tbr_iter "zio")
    refine u_list S5 (by simp) ?_
    intro a6 h6 tk6 hl6 e6 S6 k6
    replace t := t.mono k6
    replace tu := tu.mono k6
    repeat (first | tbr_iter "zst" | tbr_iter "zl312" | tbr_iter "zic" | tbr_iter "zio")
    refine u_drop S6 R' (by omega) B hg hn (by decide) (by decide) ?_
    intro c7 t7 h7 tk7 hc7 S7 k7 j7
    replace t := t.mono k7
    replace tu := tu.mono k7
    repeat (first | tbr_iter "zst" | tbr_iter "zl312" | tbr_iter "zic" | tbr_iter "zio")
    obtain ⟨b, tb, hb⟩ := two_way c7 (by omega) _ _
    refine l_item (hl6.at fun o e => j7 _ o (fun q => ne_sp e6 (by intro _ _ q; cases q) (S6.N _ (.head _)).1 (List.mem_singleton.mp q)) e) (by omega) (by omega) hb ?_ (by with_unfolding_all rfl)
    repeat (first | tbr_iter "zst" | tbr_iter "zl312" | tbr_iter "zic" | tbr_iter "zio")
    refine u_list S7 (by simp) ?_
    intro a8 h8 tk8 hl8 e8 S8 k8
    replace t := t.mono k8
    replace tu := tu.mono k8
    repeat (first | tbr_iter "zst" | tbr_iter "zl312" | tbr_iter "zic" | tbr_iter "zio")
    refine u_tree S8 R' (by omega) B hg hl8 (.cons tu .nil) (by simp) ?_
    intro r9 h9 tk9 tr S9 k9
    replace t := t.mono k9
    replace tu := tu.mono k9
    repeat (first | tbr_iter "zst" | tbr_iter "zl312" | tbr_iter "zic" | tbr_iter "zio")
    exact r_ret S9 kg ⟨⟨_, _, _, by first | (simp only [lvl]; omega) | omega | decide, tr, .told hu hx3 (.one wu)⟩, (S9.N _ (.head _)).1⟩
  refine ite_neg (by simp <;> omega) ?_
  repeat (first | tbr_iter "zst" | tbr_iter "zl312" | tbr_iter "zic" | tbr_iter "zio")
  refine u_drawn D S2 R' (by omega) B hg hn (by omega) ?_
  intro r3 h3 tk3 T3 n3 es3 hn3 hw3 t1 S3 k3
  repeat (first | tbr_iter "zst" | tbr_iter "zl312" | tbr_iter "zic" | tbr_iter "zio")
  refine so312_one S3 ?_
  intro h4 tk4 S4 k4
  have kk4 := TupKeep.of_low S3 k4
  replace t1 := t1.mono kk4
  repeat (first | tbr_iter "zst" | tbr_iter "zl312" | tbr_iter "zic" | tbr_iter "zio")
  refine u_some (m := 2) D S4 R' (by omega) B hg hn (by omega) (by decide) (by decide) ?_
  intro a5 h5 tk5 vs5 ts5 n5 es5 hn5 hz5 hw5 tss hl5 S5 k5 j5
  replace t1 := t1.mono k5
  repeat (first | tbr_iter "zst" | tbr_iter "zl312" | tbr_iter "zic" | tbr_iter "zio")
  refine u_tree S5 R' (by omega) B hg hl5.isPList (tss) (by omega) ?_
  intro r6 h6 tk6 tb S6 k6
  replace t1 := t1.mono k6
  replace tss := tss.mono k6
  repeat (first | tbr_iter "zst" | tbr_iter "zl312" | tbr_iter "zic" | tbr_iter "zio")
  refine so312_body S6 ?_
  intro h7 tk7 S7 k7
  have kk7 := TupKeep.of_low S6 k7
  replace t1 := t1.mono kk7
  replace tss := tss.mono kk7
  replace tb := tb.mono kk7
  repeat (first | tbr_iter "zst" | tbr_iter "zl312" | tbr_iter "zic" | tbr_iter "zio")
  have hwb := Wk.plain (h := S "block") (by decide) hw5
  have hn2 : n5 ≤ 2 * lvl d := hn5
  repeat (first | tbr_iter "zst" | tbr_iter "zl312" | tbr_iter "zic" | tbr_iter "zio")
  by_cases q5 : c1 = 5
  · refine ite_pos (by simp <;> omega) ?_
    repeat (first | tbr_iter "zst" | tbr_iter "zl312" | tbr_iter "zic" | tbr_iter "zio")
    refine u_list S7 (by simp) ?_
    intro a8 h8 tk8 hl8 e8 S8 k8
    replace t1 := t1.mono k8
    replace tss := tss.mono k8
    replace tb := tb.mono k8
    repeat (first | tbr_iter "zst" | tbr_iter "zl312" | tbr_iter "zic" | tbr_iter "zio")
    refine u_tree S8 R' (by omega) B hg hl8 (.cons t1 (.cons tb .nil)) (by simp) ?_
    intro r9 h9 tk9 tr S9 k9
    replace t1 := t1.mono k9
    replace tss := tss.mono k9
    replace tb := tb.mono k9
    repeat (first | tbr_iter "zst" | tbr_iter "zl312" | tbr_iter "zic" | tbr_iter "zio")
    exact r_ret S9 kg ⟨⟨_, _, _, by first | (simp only [lvl]; omega) | omega | decide, tr, .plain (by decide) (.cons hw3 (.cons hwb .nil))⟩, (S9.N _ (.head _)).1⟩
  refine ite_neg (by simp <;> omega) ?_
  repeat (first | tbr_iter "zst" | tbr_iter "zl312" | tbr_iter "zic" | tbr_iter "zio")
  by_cases q6 : c1 = 6
  · refine ite_pos (by simp <;> omega) ?_
    repeat (first | tbr_iter "zst" | tbr_iter "zl312" | tbr_iter "zic" | tbr_iter "zio")
    refine u_list S7 (by simp) ?_
    intro a8 h8 tk8 hl8 e8 S8 k8
    replace t1 := t1.mono k8
    replace tss := tss.mono k8
    replace tb := tb.mono k8
    repeat (first | tbr_iter "zst" | tbr_iter "zl312" | tbr_iter "zic" | tbr_iter "zio")
    refine u_tree S8 R' (by omega) B hg hl8 (.cons t1 (.cons tb .nil)) (by simp) ?_
    intro r9 h9 tk9 tr S9 k9
    replace t1 := t1.mono k9
    replace tss := tss.mono k9
    replace tb := tb.mono k9
    repeat (first | tbr_iter "zst" | tbr_iter "zl312" | tbr_iter "zic" | tbr_iter "zio")
    exact r_ret S9 kg ⟨⟨_, _, _, by first | (simp only [lvl]; omega) | omega | decide, tr, .first (by decide) hw3⟩, (S9.N _ (.head _)).1⟩
  refine ite_neg (by simp <;> omega) ?_
  repeat (first | tbr_iter "zst" | tbr_iter "zl312" | tbr_iter "zic" | tbr_iter "zio")
  by_cases q7 : c1 = 7
  · refine ite_pos (by simp <;> omega) ?_
    repeat (first | tbr_iter "zst" | tbr_iter "zl312" | tbr_iter "zic" | tbr_iter "zio")
    refine u_name S7 R' (by omega) B hg hn ?_
    intro r8 h8 tk8 x8 hx8 tn S8 k8
    replace t1 := t1.mono k8
    replace tss := tss.mono k8
    replace tb := tb.mono k8
    repeat (first | tbr_iter "zst" | tbr_iter "zl312" | tbr_iter "zic" | tbr_iter "zio")
    refine u_list S8 (by simp) ?_
    intro a9 h9 tk9 hl9 e9 S9 k9
    replace t1 := t1.mono k9
    replace tss := tss.mono k9
    replace tb := tb.mono k9
    replace tn := tn.mono k9
    repeat (first | tbr_iter "zst" | tbr_iter "zl312" | tbr_iter "zic" | tbr_iter "zio")
    refine u_tree S9 R' (by omega) B hg hl9 (.cons tn (.cons t1 .nil)) (by simp) ?_
    intro r10 h10 tk10 ti S10 k10
    replace t1 := t1.mono k10
    replace tss := tss.mono k10
    replace tb := tb.mono k10
    replace tn := tn.mono k10
    repeat (first | tbr_iter "zst" | tbr_iter "zl312" | tbr_iter "zic" | tbr_iter "zio")
    refine u_list S10 (by simp) ?_
    intro a11 h11 tk11 hl11 e11 S11 k11
    replace t1 := t1.mono k11
    replace tss := tss.mono k11
    replace tb := tb.mono k11
    replace tn := tn.mono k11
    replace ti := ti.mono k11
    repeat (first | tbr_iter "zst" | tbr_iter "zl312" | tbr_iter "zic" | tbr_iter "zio")
    refine u_tree S11 R' (by omega) B hg hl11 (.cons ti (.cons tb .nil)) (by simp) ?_
    intro r12 h12 tk12 tr S12 k12
    replace t1 := t1.mono k12
    replace tss := tss.mono k12
    replace tb := tb.mono k12
    replace tn := tn.mono k12
    replace ti := ti.mono k12
    repeat (first | tbr_iter "zst" | tbr_iter "zl312" | tbr_iter "zic" | tbr_iter "zio")
    exact r_ret S12 kg ⟨⟨_, _, _, by first | (simp only [lvl]; omega) | omega | decide, tr, .forr hw3⟩, (S12.N _ (.head _)).1⟩
  refine ite_neg (by simp <;> omega) ?_
  repeat (first | tbr_iter "zst" | tbr_iter "zl312" | tbr_iter "zic" | tbr_iter "zio")
  by_cases q8 : c1 = 8
  · refine ite_pos (by simp <;> omega) ?_
    repeat (first | tbr_iter "zst" | tbr_iter "zl312" | tbr_iter "zic" | tbr_iter "zio")
    refine u_name S7 R' (by omega) B hg hn ?_
    intro r8 h8 tk8 x8 hx8 tn S8 k8
    replace t1 := t1.mono k8
    replace tss := tss.mono k8
    replace tb := tb.mono k8
    repeat (first | tbr_iter "zst" | tbr_iter "zl312" | tbr_iter "zic" | tbr_iter "zio")
    refine u_list S8 (by simp) ?_
    intro a9 h9 tk9 hl9 e9 S9 k9
    replace t1 := t1.mono k9
    replace tss := tss.mono k9
    replace tb := tb.mono k9
    replace tn := tn.mono k9
    repeat (first | tbr_iter "zst" | tbr_iter "zl312" | tbr_iter "zic" | tbr_iter "zio")
    refine u_tree S9 R' (by omega) B hg hl9 (.cons tn (.cons t1 .nil)) (by simp) ?_
    intro r10 h10 tk10 te S10 k10
    replace t1 := t1.mono k10
    replace tss := tss.mono k10
    replace tb := tb.mono k10
    replace tn := tn.mono k10
    repeat (first | tbr_iter "zst" | tbr_iter "zl312" | tbr_iter "zic" | tbr_iter "zio")
    refine u_list S10 (by simp) ?_
    intro a11 h11 tk11 hl11 e11 S11 k11
    replace t1 := t1.mono k11
    replace tss := tss.mono k11
    replace tb := tb.mono k11
    replace tn := tn.mono k11
    replace te := te.mono k11
    repeat (first | tbr_iter "zst" | tbr_iter "zl312" | tbr_iter "zic" | tbr_iter "zio")
    refine u_tree S11 R' (by omega) B hg hl11 (.cons te .nil) (by simp) ?_
    intro r12 h12 tk12 ti S12 k12
    replace t1 := t1.mono k12
    replace tss := tss.mono k12
    replace tb := tb.mono k12
    replace tn := tn.mono k12
    replace te := te.mono k12
    repeat (first | tbr_iter "zst" | tbr_iter "zl312" | tbr_iter "zic" | tbr_iter "zio")
    refine u_list S12 (by simp) ?_
    intro a13 h13 tk13 hl13 e13 S13 k13
    replace t1 := t1.mono k13
    replace tss := tss.mono k13
    replace tb := tb.mono k13
    replace tn := tn.mono k13
    replace te := te.mono k13
    replace ti := ti.mono k13
    repeat (first | tbr_iter "zst" | tbr_iter "zl312" | tbr_iter "zic" | tbr_iter "zio")
    refine u_tree S13 R' (by omega) B hg hl13 (.cons ti (.cons tb .nil)) (by simp) ?_
    intro r14 h14 tk14 tr S14 k14
    replace t1 := t1.mono k14
    replace tss := tss.mono k14
    replace tb := tb.mono k14
    replace tn := tn.mono k14
    replace te := te.mono k14
    replace ti := ti.mono k14
    repeat (first | tbr_iter "zst" | tbr_iter "zl312" | tbr_iter "zic" | tbr_iter "zio")
    exact r_ret S14 kg ⟨⟨_, _, _, by first | (simp only [lvl]; omega) | omega | decide, tr, .skip (by decide)⟩, (S14.N _ (.head _)).1⟩
  refine ite_neg (by simp <;> omega) ?_
  repeat (first | tbr_iter "zst" | tbr_iter "zl312" | tbr_iter "zic" | tbr_iter "zio")
  by_cases q9 : c1 = 9
  · refine ite_pos (by simp <;> omega) ?_
    repeat (first | tbr_iter "zst" | tbr_iter "zl312" | tbr_iter "zic" | tbr_iter "zio")
    refine u_sym S7 ?_
    intro a8 h8 tk8 ts S8 k8
    replace t1 := t1.mono k8
    replace tss := tss.mono k8
    replace tb := tb.mono k8
    repeat (first | tbr_iter "zst" | tbr_iter "zl312" | tbr_iter "zic" | tbr_iter "zio")
    refine u_list S8 (by simp) ?_
    intro a9 h9 tk9 hl9 e9 S9 k9
    replace t1 := t1.mono k9
    replace tss := tss.mono k9
    replace tb := tb.mono k9
    replace ts := ts.mono k9
    repeat (first | tbr_iter "zst" | tbr_iter "zl312" | tbr_iter "zic" | tbr_iter "zio")
    refine u_tree S9 R' (by omega) B hg hl9 (.cons tb (.cons ts (.cons tb .nil))) (by simp) ?_
    intro r10 h10 tk10 tr S10 k10
    replace t1 := t1.mono k10
    replace tss := tss.mono k10
    replace tb := tb.mono k10
    replace ts := ts.mono k10
    repeat (first | tbr_iter "zst" | tbr_iter "zl312" | tbr_iter "zic" | tbr_iter "zio")
    exact r_ret S10 kg ⟨⟨_, _, _, by first | (simp only [lvl]; omega) | omega | decide, tr, .skip (by decide)⟩, (S10.N _ (.head _)).1⟩
  refine ite_neg (by simp <;> omega) ?_
  repeat (first | tbr_iter "zst" | tbr_iter "zl312" | tbr_iter "zic" | tbr_iter "zio")
  by_cases q10 : c1 = 10
  · refine ite_pos (by simp <;> omega) ?_
    repeat (first | tbr_iter "zst" | tbr_iter "zl312" | tbr_iter "zic" | tbr_iter "zio")
    refine u_name S7 R' (by omega) B hg hn ?_
    intro r8 h8 tk8 x8 hx8 tn S8 k8
    replace t1 := t1.mono k8
    replace tss := tss.mono k8
    replace tb := tb.mono k8
    repeat (first | tbr_iter "zst" | tbr_iter "zl312" | tbr_iter "zic" | tbr_iter "zio")
    refine u_sym S8 ?_
    intro a9 h9 tk9 ts S9 k9
    replace t1 := t1.mono k9
    replace tss := tss.mono k9
    replace tb := tb.mono k9
    replace tn := tn.mono k9
    repeat (first | tbr_iter "zst" | tbr_iter "zl312" | tbr_iter "zic" | tbr_iter "zio")
    refine u_list S9 (by simp) ?_
    intro a10 h10 tk10 hl10 e10 S10 k10
    replace t1 := t1.mono k10
    replace tss := tss.mono k10
    replace tb := tb.mono k10
    replace tn := tn.mono k10
    replace ts := ts.mono k10
    repeat (first | tbr_iter "zst" | tbr_iter "zl312" | tbr_iter "zic" | tbr_iter "zio")
    refine u_tree S10 R' (by omega) B hg hl10 (.cons tn (.cons ts .nil)) (by simp) ?_
    intro r11 h11 tk11 ti S11 k11
    replace t1 := t1.mono k11
    replace tss := tss.mono k11
    replace tb := tb.mono k11
    replace tn := tn.mono k11
    replace ts := ts.mono k11
    repeat (first | tbr_iter "zst" | tbr_iter "zl312" | tbr_iter "zic" | tbr_iter "zio")
    refine u_list S11 (by simp) ?_
    intro a12 h12 tk12 hl12 e12 S12 k12
    replace t1 := t1.mono k12
    replace tss := tss.mono k12
    replace tb := tb.mono k12
    replace tn := tn.mono k12
    replace ts := ts.mono k12
    replace ti := ti.mono k12
    repeat (first | tbr_iter "zst" | tbr_iter "zl312" | tbr_iter "zic" | tbr_iter "zio")
    refine u_tree S12 R' (by omega) B hg hl12 (.cons ti (.cons tb .nil)) (by simp) ?_
    intro r13 h13 tk13 tr S13 k13
    replace t1 := t1.mono k13
    replace tss := tss.mono k13
    replace tb := tb.mono k13
    replace tn := tn.mono k13
    replace ts := ts.mono k13
    replace ti := ti.mono k13
    repeat (first | tbr_iter "zst" | tbr_iter "zl312" | tbr_iter "zic" | tbr_iter "zio")
    exact r_ret S13 kg ⟨⟨_, _, _, by first | (simp only [lvl]; omega) | omega | decide, tr, .fn hx8⟩, (S13.N _ (.head _)).1⟩
  refine ite_neg (by simp <;> omega) ?_
  repeat (first | tbr_iter "zst" | tbr_iter "zl312" | tbr_iter "zic" | tbr_iter "zio")
  by_cases q11 : c1 = 11
  · refine ite_pos (by simp <;> omega) ?_
    repeat (first | tbr_iter "zst" | tbr_iter "zl312" | tbr_iter "zic" | tbr_iter "zio")
    refine u_sym S7 ?_
    intro a8 h8 tk8 ts S8 k8
    replace t1 := t1.mono k8
    replace tss := tss.mono k8
    replace tb := tb.mono k8
    repeat (first | tbr_iter "zst" | tbr_iter "zl312" | tbr_iter "zic" | tbr_iter "zio")
    refine u_list S8 (by simp) ?_
    intro a9 h9 tk9 hl9 e9 S9 k9
    replace t1 := t1.mono k9
    replace tss := tss.mono k9
    replace tb := tb.mono k9
    replace ts := ts.mono k9
    repeat (first | tbr_iter "zst" | tbr_iter "zl312" | tbr_iter "zic" | tbr_iter "zio")
    refine u_tree S9 R' (by omega) B hg hl9 (.cons ts (.cons tb .nil)) (by simp) ?_
    intro r10 h10 tk10 tr S10 k10
    replace t1 := t1.mono k10
    replace tss := tss.mono k10
    replace tb := tb.mono k10
    replace ts := ts.mono k10
    repeat (first | tbr_iter "zst" | tbr_iter "zl312" | tbr_iter "zic" | tbr_iter "zio")
    exact r_ret S10 kg ⟨⟨_, _, _, by first | (simp only [lvl]; omega) | omega | decide, tr, .skip (by decide)⟩, (S10.N _ (.head _)).1⟩
  refine ite_neg (by simp <;> omega) ?_
  repeat (first | tbr_iter "zst" | tbr_iter "zl312" | tbr_iter "zic" | tbr_iter "zio")
  by_cases q12 : c1 = 12
  · refine ite_pos (by simp <;> omega) ?_
    repeat (first | tbr_iter "zst" | tbr_iter "zl312" | tbr_iter "zic" | tbr_iter "zio")
    refine u_sym S7 ?_
    intro a8 h8 tk8 ts S8 k8
    replace t1 := t1.mono k8
    replace tss := tss.mono k8
    replace tb := tb.mono k8
    repeat (first | tbr_iter "zst" | tbr_iter "zl312" | tbr_iter "zic" | tbr_iter "zio")
    refine u_list S8 (by simp) ?_
    intro a9 h9 tk9 hl9 e9 S9 k9
    replace t1 := t1.mono k9
    replace tss := tss.mono k9
    replace tb := tb.mono k9
    replace ts := ts.mono k9
    repeat (first | tbr_iter "zst" | tbr_iter "zl312" | tbr_iter "zic" | tbr_iter "zio")
    refine u_tree S9 R' (by omega) B hg hl9 (.cons ts (.cons t1 .nil)) (by simp) ?_
    intro r10 h10 tk10 ti S10 k10
    replace t1 := t1.mono k10
    replace tss := tss.mono k10
    replace tb := tb.mono k10
    replace ts := ts.mono k10
    repeat (first | tbr_iter "zst" | tbr_iter "zl312" | tbr_iter "zic" | tbr_iter "zio")
    refine u_sym S10 ?_
    intro a11 h11 tk11 tz S11 k11
    replace t1 := t1.mono k11
    replace tss := tss.mono k11
    replace tb := tb.mono k11
    replace ts := ts.mono k11
    replace ti := ti.mono k11
    repeat (first | tbr_iter "zst" | tbr_iter "zl312" | tbr_iter "zic" | tbr_iter "zio")
    refine u_list S11 (by simp) ?_
    intro a12 h12 tk12 hl12 e12 S12 k12
    replace t1 := t1.mono k12
    replace tss := tss.mono k12
    replace tb := tb.mono k12
    replace ts := ts.mono k12
    replace ti := ti.mono k12
    replace tz := tz.mono k12
    repeat (first | tbr_iter "zst" | tbr_iter "zl312" | tbr_iter "zic" | tbr_iter "zio")
    refine u_tree S12 R' (by omega) B hg hl12 (.cons tz (.cons tb .nil)) (by simp) ?_
    intro r13 h13 tk13 tj S13 k13
    replace t1 := t1.mono k13
    replace tss := tss.mono k13
    replace tb := tb.mono k13
    replace ts := ts.mono k13
    replace ti := ti.mono k13
    replace tz := tz.mono k13
    repeat (first | tbr_iter "zst" | tbr_iter "zl312" | tbr_iter "zic" | tbr_iter "zio")
    refine u_list S13 (by simp) ?_
    intro a14 h14 tk14 hl14 e14 S14 k14
    replace t1 := t1.mono k14
    replace tss := tss.mono k14
    replace tb := tb.mono k14
    replace ts := ts.mono k14
    replace ti := ti.mono k14
    replace tz := tz.mono k14
    replace tj := tj.mono k14
    repeat (first | tbr_iter "zst" | tbr_iter "zl312" | tbr_iter "zic" | tbr_iter "zio")
    refine u_tree S14 R' (by omega) B hg hl14 (.cons ti (.cons tj .nil)) (by simp) ?_
    intro r15 h15 tk15 tr S15 k15
    replace t1 := t1.mono k15
    replace tss := tss.mono k15
    replace tb := tb.mono k15
    replace ts := ts.mono k15
    replace ti := ti.mono k15
    replace tz := tz.mono k15
    replace tj := tj.mono k15
    repeat (first | tbr_iter "zst" | tbr_iter "zl312" | tbr_iter "zic" | tbr_iter "zio")
    exact r_ret S15 kg ⟨⟨_, _, _, by first | (simp only [lvl]; omega) | omega | decide, tr, .first (by decide) (.plain (by decide) (.cons .sym (.cons hw3 .nil)))⟩, (S15.N _ (.head _)).1⟩
  refine ite_neg (by simp <;> omega) ?_
  repeat (first | tbr_iter "zst" | tbr_iter "zl312" | tbr_iter "zic" | tbr_iter "zio")
  by_cases q13 : c1 = 13
  · refine ite_pos (by simp <;> omega) ?_
    repeat (first | tbr_iter "zst" | tbr_iter "zl312" | tbr_iter "zic" | tbr_iter "zio")
    refine u_sym S7 ?_
    intro a8 h8 tk8 tz S8 k8
    replace t1 := t1.mono k8
    replace tss := tss.mono k8
    replace tb := tb.mono k8
    repeat (first | tbr_iter "zst" | tbr_iter "zl312" | tbr_iter "zic" | tbr_iter "zio")
    refine u_list S8 (by simp) ?_
    intro a9 h9 tk9 hl9 e9 S9 k9
    replace t1 := t1.mono k9
    replace tss := tss.mono k9
    replace tb := tb.mono k9
    replace tz := tz.mono k9
    repeat (first | tbr_iter "zst" | tbr_iter "zl312" | tbr_iter "zic" | tbr_iter "zio")
    refine u_tree S9 R' (by omega) B hg hl9 (.cons tz (.cons tb .nil)) (by simp) ?_
    intro r10 h10 tk10 tj S10 k10
    replace t1 := t1.mono k10
    replace tss := tss.mono k10
    replace tb := tb.mono k10
    replace tz := tz.mono k10
    repeat (first | tbr_iter "zst" | tbr_iter "zl312" | tbr_iter "zic" | tbr_iter "zio")
    refine u_list S10 (by simp) ?_
    intro a11 h11 tk11 hl11 e11 S11 k11
    replace t1 := t1.mono k11
    replace tss := tss.mono k11
    replace tb := tb.mono k11
    replace tz := tz.mono k11
    replace tj := tj.mono k11
    repeat (first | tbr_iter "zst" | tbr_iter "zl312" | tbr_iter "zic" | tbr_iter "zio")
    refine u_tree S11 R' (by omega) B hg hl11 (.cons t1 (.cons tj .nil)) (by simp) ?_
    intro r12 h12 tk12 tr S12 k12
    replace t1 := t1.mono k12
    replace tss := tss.mono k12
    replace tb := tb.mono k12
    replace tz := tz.mono k12
    replace tj := tj.mono k12
    repeat (first | tbr_iter "zst" | tbr_iter "zl312" | tbr_iter "zic" | tbr_iter "zio")
    exact r_ret S12 kg ⟨⟨_, _, _, by first | (simp only [lvl]; omega) | omega | decide, tr, .skip (by decide)⟩, (S12.N _ (.head _)).1⟩
  refine ite_neg (by simp <;> omega) ?_
  repeat (first | tbr_iter "zst" | tbr_iter "zl312" | tbr_iter "zic" | tbr_iter "zio")
  refine u_sym S7 ?_
  intro a8 h8 tk8 ta S8 k8
  replace t1 := t1.mono k8
  replace tss := tss.mono k8
  replace tb := tb.mono k8
  repeat (first | tbr_iter "zst" | tbr_iter "zl312" | tbr_iter "zic" | tbr_iter "zio")
  refine u_list S8 (by simp) ?_
  intro a9 h9 tk9 hl9 e9 S9 k9
  replace t1 := t1.mono k9
  replace tss := tss.mono k9
  replace tb := tb.mono k9
  replace ta := ta.mono k9
  repeat (first | tbr_iter "zst" | tbr_iter "zl312" | tbr_iter "zic" | tbr_iter "zio")
  refine u_tree S9 R' (by omega) B hg hl9 (.cons ta (.cons t1 .nil)) (by simp) ?_
  intro r10 h10 tk10 tkw S10 k10
  replace t1 := t1.mono k10
  replace tss := tss.mono k10
  replace tb := tb.mono k10
  replace ta := ta.mono k10
  repeat (first | tbr_iter "zst" | tbr_iter "zl312" | tbr_iter "zic" | tbr_iter "zio")
  refine u_list S10 (by simp) ?_
  intro a11 h11 tk11 hl11 e11 S11 k11
  replace t1 := t1.mono k11
  replace tss := tss.mono k11
  replace tb := tb.mono k11
  replace ta := ta.mono k11
  replace tkw := tkw.mono k11
  repeat (first | tbr_iter "zst" | tbr_iter "zl312" | tbr_iter "zic" | tbr_iter "zio")
  refine u_tree S11 R' (by omega) B hg hl11 (.cons tkw .nil) (by simp) ?_
  intro r12 h12 tk12 tp S12 k12
  replace t1 := t1.mono k12
  replace tss := tss.mono k12
  replace tb := tb.mono k12
  replace ta := ta.mono k12
  replace tkw := tkw.mono k12
  repeat (first | tbr_iter "zst" | tbr_iter "zl312" | tbr_iter "zic" | tbr_iter "zio")
  refine so312_worth S12 ?_
  intro h13 tk13 S13 k13
  have kk13 := TupKeep.of_low S12 k13
  replace t1 := t1.mono kk13
  replace tss := tss.mono kk13
  replace tb := tb.mono kk13
  replace ta := ta.mono kk13
  replace tkw := tkw.mono kk13
  replace tp := tp.mono kk13
  repeat (first | tbr_iter "zst" | tbr_iter "zl312" | tbr_iter "zic" | tbr_iter "zio")
  refine u_sym S13 ?_
  intro a14 h14 tk14 tf S14 k14
  replace t1 := t1.mono k14
  replace tss := tss.mono k14
  replace tb := tb.mono k14
  replace ta := ta.mono k14
  replace tkw := tkw.mono k14
  replace tp := tp.mono k14
  repeat (first | tbr_iter "zst" | tbr_iter "zl312" | tbr_iter "zic" | tbr_iter "zio")
  refine u_list S14 (by simp) ?_
  intro a15 h15 tk15 hl15 e15 S15 k15
  replace t1 := t1.mono k15
  replace tss := tss.mono k15
  replace tb := tb.mono k15
  replace ta := ta.mono k15
  replace tkw := tkw.mono k15
  replace tp := tp.mono k15
  replace tf := tf.mono k15
  repeat (first | tbr_iter "zst" | tbr_iter "zl312" | tbr_iter "zic" | tbr_iter "zio")
  refine u_some (m := 2) D S15 R' (by omega) B hg hn (by omega) (by decide) (by decide) ?_
  intro a16 h16 tk16 vs16 ts16 n16 es16 hn16 hz16 hw16 tq hl16 S16 k16 j16
  replace t1 := t1.mono k16
  replace tss := tss.mono k16
  replace tb := tb.mono k16
  replace ta := ta.mono k16
  replace tkw := tkw.mono k16
  replace tp := tp.mono k16
  replace tf := tf.mono k16
  repeat (first | tbr_iter "zst" | tbr_iter "zl312" | tbr_iter "zic" | tbr_iter "zio")
  obtain ⟨ol, el, nl, ql⟩ := hl16
  subst ql
  refine l_add (j16 _ _ (fun q => ne_sp e15 (by intro _ _ q; cases q) (S15.N _ (.head _)).1 (List.mem_singleton.mp q)) e15) el (by simp; omega) ?_
  intro a17 h17 tk17 hl17 k17
  replace t1 := t1.mono (TupKeep.of_stays k17)
  replace tss := tss.mono (TupKeep.of_stays k17)
  replace tb := tb.mono (TupKeep.of_stays k17)
  replace ta := ta.mono (TupKeep.of_stays k17)
  replace tkw := tkw.mono (TupKeep.of_stays k17)
  replace tp := tp.mono (TupKeep.of_stays k17)
  replace tf := tf.mono (TupKeep.of_stays k17)
  replace tq := tq.mono (TupKeep.of_stays k17)
  have S17 := S16.keeps k17
  repeat (first | tbr_iter "zst" | tbr_iter "zl312" | tbr_iter "zic" | tbr_iter "zio")
  refine u_tree S17 R' (by omega) B hg hl17 ((TreesAt.cons tf (.cons tp .nil)).append tq) (by simp; omega) ?_
  intro r18 h18 tk18 tr S18 k18
  replace t1 := t1.mono k18
  replace tss := tss.mono k18
  replace tb := tb.mono k18
  replace ta := ta.mono k18
  replace tkw := tkw.mono k18
  replace tp := tp.mono k18
  replace tf := tf.mono k18
  replace tq := tq.mono k18
  have hn3 : n16 ≤ 2 * lvl d := hn16
  repeat (first | tbr_iter "zst" | tbr_iter "zl312" | tbr_iter "zic" | tbr_iter "zio")
  exact r_ret S18 kg ⟨⟨_, _, _, by first | (simp only [lvl]; omega) | omega | decide, tr, .plain (by decide) ((Wks.cons .sym (.cons (.plain (by decide) (.cons (.kw hw3) .nil)) .nil)).append hw16)⟩, (S18.N _ (.head _)).1⟩
end

/-- a list of texts -/
noncomputable def isStrs (ls : List Str) : OP := fun o => ∃ vs n, StrsAre vs ls ∧ o = { cls := .type "list", data := .seq vs.toArray n }
theorem Has.strs {h : Heap} {a : Addr} {ls : List Str} (x : Has h (a, isStrs ls)) : ∃ vs n, StrsAre vs ls ∧ h.get? a = some { cls := .type "list", data := .seq vs.toArray n } := by
  obtain ⟨o, e, vs, n, hv, rfl⟩ := x
  exact ⟨vs, n, hv, e⟩
theorem noTup_strs {h : Heap} {a : Addr} {ls : List Str} (x : Has h (a, isStrs ls)) : NoTup h [a] := fun b hb o e q => by
  obtain ⟨vs, n, _, e'⟩ := x.strs
  rw [List.mem_singleton.mp hb, e'] at e
  cases e
  exact absurd (Value.type.inj q.1) (by decide)
theorem strs_at {vs : List Value} {ns : List Str} (x : StrsAre vs ns) : ∀ {i : Nat} {v : Value}, vs[i]? = some v → ∃ x t, ns[i]? = some x ∧ v = .str x t := by
  induction x with
  | nil => exact fun e => nomatch e
  | cons y t _ ih => exact fun {i _} e => match i, e with | 0, e => ⟨y, t, rfl, (Option.some.inj e).symm⟩ | _ + 1, e => ih e
section
variable {w : World} {A : Around} {s : Shared} {g h h₁ h' : Heap} {L : Addr} {l l₁ : LM} {led led₁ : Led} {tk : Nat} {E : Value → Shared → Prop} {Q : Value → Shared → Prop}
theorem St.gL (SS : St w g L l led h) : g.get? L = none := Heap.get?_none_of_le SS.F.above
theorem St.off {X : List Addr} (S₁ : St w g L l₁ led₁ h₁) (hI : ∀ i ∈ X, h₁.get? i = none) (SS : St w g L l led h) (ha : ∀ p ∈ led, ∃ P, (p.1, P) ∈ led₁) (k : ∀ b o, b ∉ X → h.get? b = some o → h'.get? b = some o) : St w g L l led h' := by
  refine SS.but k (fun a ha' => ⟨fun q => S₁.low (q ▸ hI a ha'), ?_⟩) fun p hp => .inl ⟨hp, fun q => ?_⟩
  · cases e : g.get? a with
    | none => rfl
    | some o => have := S₁.F.keep _ _ e; rw [hI a ha'] at this; cases this
  · obtain ⟨P, hP⟩ := ha p hp
    obtain ⟨⟨o, e, _⟩, _⟩ := S₁.N _ hP
    have := hI _ q
    rw [show h₁.get? p.1 = some o from e] at this; cases this
theorem u_append {a : Addr} {x : Str} {t : Nat} {ls : List Str} (SS : St w g L l [(a, isStrs ls)] h) (hz : ls.length ≤ 10000)
    (q : ∀ h', St w g L l [(a, isStrs (ls ++ [x]))] h' → (∀ b o, b ∉ [a] → h.get? b = some o → h'.get? b = some o) → Q .none (up s h' tk)) : wpAny (model PW w) A (call (.builtin "list.append") [.ref a, .str x t]) Q E (up s h tk) := by
  obtain ⟨vs, n, hv, e⟩ := (SS.N _ (.head _)).1.strs
  refine append_at (s := up s h tk) e (fun h' hs e' => ?_) (by rw [List.size_toArray, hv.length]; simp only [sizeLine]; omega)
  have k : ∀ b o, b ∉ [a] → h.get? b = some o → h'.get? b = some o := fun b o nb e => (hs.2 b fun q => nb (by rw [q]; exact .head _)).trans e
  refine q h' (SS.one ⟨_, .head _⟩ k ⟨_, e', vs ++ [.str x t], n + 1, hv.append' (.cons _ _ .nil), ?_⟩) k
  rw [List.push_toArray]
theorem u_method {a : Addr} {ls : List Str} {pl : Sem Bool} {Q : Value × List Value → Shared → Prop} (ha : Has h (a, isStrs ls)) (q : Q (.builtin "list.append", [.ref a]) (up s h tk)) : wpAny (model PW w) A (getMethod (.ref a) (Str.ofString "append") pl) Q E (up s h tk) := by
  obtain ⟨vs, n, hv, e⟩ := ha.strs
  exact Calls.getMethod_list_append (s := up s h tk) e rfl rfl q
theorem c_notin {a : Addr} {ls : List Str} {x : Str} {t : Nat} (ha : Has h (a, isStrs ls)) (q : Q (.bool (!(ls.any (· == x)))) (up s h tk)) : wpAny (model PW w) A (compareOp .NotIn (.str x t) (.ref a)) Q E (up s h tk) := by
  obtain ⟨vs, n, hv, e⟩ := ha.strs
  exact notin_list_strs (s := up s h tk) ⟨_, e, rfl, _, rfl⟩ hv q
theorem c_inl {a : Addr} {ls : List Str} {x : Str} {t : Nat} (ha : Has h (a, isStrs ls)) (q : Q (.bool (ls.any (· == x))) (up s h tk)) : wpAny (model PW w) A (compareOp .In (.str x t) (.ref a)) Q E (up s h tk) := by
  obtain ⟨vs, n, hv, e⟩ := ha.strs
  exact in_list_strs (s := up s h tk) ⟨_, e, rfl, _, rfl⟩ hv q
theorem c_int {a : Addr} {vs : List Value} {ls : List Str} {x : Str} {t : Nat} (ha : IsTup h a vs.toArray) (hv : StrsAre vs ls) (q : Q (.bool (ls.any (· == x))) (up s h tk)) : wpAny (model PW w) A (compareOp .In (.str x t) (.ref a)) Q E (up s h tk) :=
  in_tuple_strs (s := up s h tk) ha hv q
end
theorem putO_take {ls ns : List Str} {i : Nat} {x : Str} (h : ns[i]? = some x) : putO ls (ns.take (i + 1)) = pone (putO ls (ns.take i)) x := by
  rw [List.take_add_one, h, putO_append]; rfl
theorem pone_len {l : List Str} {x : Str} : (pone l x).length ≤ l.length + 1 := by
  unfold pone; split
  · omega
  · rw [List.length_append, List.length_singleton]; omega
theorem putO_len {l ns : List Str} : (putO l ns).length ≤ l.length + ns.length := by
  induction ns generalizing l with
  | nil => exact Nat.le_refl _
  | cons n r ih =>
    show (putO (pone l n) r).length ≤ _
    have := ih (l := pone l n)
    have := pone_len (l := l) (x := n)
    rw [List.length_cons]; omega

section
variable {w : World} {A : Around} {s : Shared} {h₀ : Heap}
theorem sp_note {a b : Addr} {ls ns : List Str} {vs : List Value} (R : Room 1 A) (B : Bs w h₀) (k₀ : h₀.StaysIn s.heap) (ha : Has s.heap (a, isStrs ls)) (hn : h₀.get? a = none) (hb : s.heap.IsList b vs.toArray) (hv : StrsAre vs ns) (ne : a ≠ b) (hz : ls.length + ns.length ≤ 9000) :
    wpAny (model PW w) A (call (.ref 331) [.ref a, .ref b]) (Ret s [a] fun _ h' => Has h' (a, isStrs (putO ls ns))) NoE s := by
  refine en331 R B k₀ [(a, isStrs ls)] (fun p hp => by rw [List.mem_singleton.mp hp]; exact ⟨ha, hn⟩) ?_
  intro g L h₁ tk SS hg kg kg' k₁ R'
  have hb₁ : h₁.IsList b vs.toArray := hb.at fun o e => k₁ _ _ e
  obtain ⟨ob, eb, _⟩ := id hb
  have gb : g.get? b = some ob := kg b ob (fun q => ne (List.mem_singleton.mp q).symm) eb
  have bL : b ≠ L := fun q => by have := SS.gL; rw [← q, gb] at this; cases this
  have aL := (SS.N _ (.head _)).2.1
  refine x_cons ?_
  refine r_for ?_ (by intro x; with_unfolding_all rfl)
  repeat (first | (with_reducible first|refine lo331_some ‹_› ?_|refine lo331_names ‹_› ?_|refine lo331_name ‹_› ?_))
  refine ⟨h₁, tk, [b], vs.length, _, rfl, IterOf.list R'.1 hb₁, fun I hI => ?_⟩
  have Ia : I ≠ a := fun q => by obtain ⟨o, e, _⟩ := (SS.N _ (.head _)).1; rw [q, show h₁.get? a = some o from e] at hI; cases hI
  have IL : I ≠ L := fun q => SS.low (q ▸ hI)
  refine ⟨fun i h => ∃ o, St w g L (V202 (some (.ref a)) (some (.ref b)) o) [(a, isStrs (putO ls (ns.take i)))] h, fun h2 k2 => ⟨none, SS.keeps k2⟩, ?_, ?_, ?_⟩
  · rintro i h h' ⟨o, J⟩ hT k
    exact ⟨o, SS.off (X := [I]) (fun i hi => by rw [List.mem_singleton.mp hi]; exact hI) J (List.forall_mem_singleton.mpr ⟨_, .head _⟩) k⟩
  · rintro i v h tk2 hi hP ⟨o, J⟩ hex
    obtain ⟨x, t, hx, rfl⟩ := strs_at hv hP
    have hl0 := putO_len (l := ls) (ns := ns.take i)
    have hl1 : (ns.take i).length ≤ ns.length := by rw [List.length_take]; omega
    have hlen : (putO ls (ns.take i)).length ≤ 10000 := by omega
    refine so331_name J ?_
    intro h3 tk3 S3 k3
    repeat (first | tbr_iter "zst" | (with_reducible first|refine lo331_some ‹_› ?_|refine lo331_names ‹_› ?_|refine lo331_name ‹_› ?_))
    refine c_notin (S3.N _ (.head _)).1 ?_
    repeat (first | tbr_iter "zst" | (with_reducible first|refine lo331_some ‹_› ?_|refine lo331_names ‹_› ?_|refine lo331_name ‹_› ?_))
    have hJ : ∀ {h4 : Heap} {z : List Str}, St w g L (V202 (some (.ref a)) (some (.ref b)) (some (.str x t))) [(a, isStrs z)] h4 → z = pone (putO ls (ns.take i)) x → ∃ o, St w g L (V202 (some (.ref a)) (some (.ref b)) o) [(a, isStrs (putO ls (ns.take (i + 1))))] h4 := fun S4 e => ⟨_, by rw [putO_take hx, ← e]; exact S4⟩
    by_cases q : x ∈ putO ls (ns.take i)
    · refine ite_neg (by rw [any_eq.mpr q]; decide) ?_
      repeat (first | tbr_iter "zst")
      refine forK_next (fun c hc o e => k3 c o ?_ e) (hJ S3 (pone_mem q).symm)
      rcases List.mem_cons.mp hc with rfl | hc
      · exact IL
      · rw [List.mem_singleton.mp hc]; exact bL
    · have q' : ((putO ls (ns.take i)).any (· == x)) = false := by
        cases e : (putO ls (ns.take i)).any (· == x) with
        | false => rfl
        | true => exact absurd (any_eq.mp e) q
      refine ite_pos (by rw [q']; decide) ?_
      repeat (first | tbr_iter "zst" | tbr_iter "zcb" | (with_reducible first|refine lo331_some ‹_› ?_|refine lo331_names ‹_› ?_|refine lo331_name ‹_› ?_))
      refine u_method (S3.N _ (.head _)).1 ?_
      repeat (first | tbr_iter "zst" | tbr_iter "zcb" | (with_reducible first|refine lo331_some ‹_› ?_|refine lo331_names ‹_› ?_|refine lo331_name ‹_› ?_))
      refine u_append S3 hlen ?_
      intro h4 S4 k4
      repeat (first | tbr_iter "zst")
      refine forK_next (fun c hc o e => k4 c o ?_ (k3 c o ?_ e)) (hJ S4 (pone_new q).symm)
      · rcases List.mem_cons.mp hc with rfl | hc
        · exact fun q => Ia (List.mem_singleton.mp q)
        · rw [List.mem_singleton.mp hc]; exact fun q => ne (List.mem_singleton.mp q).symm
      · rcases List.mem_cons.mp hc with rfl | hc
        · exact IL
        · rw [List.mem_singleton.mp hc]; exact bL
  · rintro h tk2 ⟨o, J⟩
    rw [hv.length, List.take_length] at J
    repeat (first | tbr_iter "zst")
    exact r_ret J kg (J.N _ (.head _)).1
theorem sp_put_once {a b : Addr} {ls ns : List Str} {vs : List Value} (R : Room 1 A) (B : Bs w h₀) (k₀ : h₀.StaysIn s.heap) (ha : Has s.heap (a, isStrs ls)) (hn : h₀.get? a = none) (hb : s.heap.IsList b vs.toArray) (hv : StrsAre vs ns) (ne : a ≠ b) (hz : ls.length + ns.length ≤ 9000) :
    wpAny (model PW w) A (call (.ref 202) [.ref a, .ref b]) (Ret s [a] fun _ h' => Has h' (a, isStrs (putO ls ns))) NoE s := by
  refine en202 R B k₀ [(a, isStrs ls)] (fun p hp => by rw [List.mem_singleton.mp hp]; exact ⟨ha, hn⟩) ?_
  intro g L h₁ tk SS hg kg kg' k₁ R'
  have hb₁ : h₁.IsList b vs.toArray := hb.at fun o e => k₁ _ _ e
  obtain ⟨ob, eb, _⟩ := id hb
  have gb : g.get? b = some ob := kg b ob (fun q => ne (List.mem_singleton.mp q).symm) eb
  have bL : b ≠ L := fun q => by have := SS.gL; rw [← q, gb] at this; cases this
  have aL := (SS.N _ (.head _)).2.1
  refine x_cons ?_
  refine r_for ?_ (by intro x; with_unfolding_all rfl)
  repeat (first | (with_reducible first|refine lo202_some ‹_› ?_|refine lo202_names ‹_› ?_|refine lo202_name ‹_› ?_))
  refine ⟨h₁, tk, [b], vs.length, _, rfl, IterOf.list R'.1 hb₁, fun I hI => ?_⟩
  have Ia : I ≠ a := fun q => by obtain ⟨o, e, _⟩ := (SS.N _ (.head _)).1; rw [q, show h₁.get? a = some o from e] at hI; cases hI
  have IL : I ≠ L := fun q => SS.low (q ▸ hI)
  refine ⟨fun i h => ∃ o, St w g L (V202 (some (.ref a)) (some (.ref b)) o) [(a, isStrs (putO ls (ns.take i)))] h, fun h2 k2 => ⟨none, SS.keeps k2⟩, ?_, ?_, ?_⟩
  · rintro i h h' ⟨o, J⟩ hT k
    exact ⟨o, SS.off (X := [I]) (fun i hi => by rw [List.mem_singleton.mp hi]; exact hI) J (List.forall_mem_singleton.mpr ⟨_, .head _⟩) k⟩
  · rintro i v h tk2 hi hP ⟨o, J⟩ hex
    obtain ⟨x, t, hx, rfl⟩ := strs_at hv hP
    have hl0 := putO_len (l := ls) (ns := ns.take i)
    have hl1 : (ns.take i).length ≤ ns.length := by rw [List.length_take]; omega
    have hlen : (putO ls (ns.take i)).length ≤ 10000 := by omega
    refine so202_name J ?_
    intro h3 tk3 S3 k3
    repeat (first | tbr_iter "zst" | (with_reducible first|refine lo202_some ‹_› ?_|refine lo202_names ‹_› ?_|refine lo202_name ‹_› ?_))
    refine c_notin (S3.N _ (.head _)).1 ?_
    repeat (first | tbr_iter "zst" | (with_reducible first|refine lo202_some ‹_› ?_|refine lo202_names ‹_› ?_|refine lo202_name ‹_› ?_))
    have hJ : ∀ {h4 : Heap} {z : List Str}, St w g L (V202 (some (.ref a)) (some (.ref b)) (some (.str x t))) [(a, isStrs z)] h4 → z = pone (putO ls (ns.take i)) x → ∃ o, St w g L (V202 (some (.ref a)) (some (.ref b)) o) [(a, isStrs (putO ls (ns.take (i + 1))))] h4 := fun S4 e => ⟨_, by rw [putO_take hx, ← e]; exact S4⟩
    by_cases q : x ∈ putO ls (ns.take i)
    · refine ite_neg (by rw [any_eq.mpr q]; decide) ?_
      repeat (first | tbr_iter "zst")
      refine forK_next (fun c hc o e => k3 c o ?_ e) (hJ S3 (pone_mem q).symm)
      rcases List.mem_cons.mp hc with rfl | hc
      · exact IL
      · rw [List.mem_singleton.mp hc]; exact bL
    · have q' : ((putO ls (ns.take i)).any (· == x)) = false := by
        cases e : (putO ls (ns.take i)).any (· == x) with
        | false => rfl
        | true => exact absurd (any_eq.mp e) q
      refine ite_pos (by rw [q']; decide) ?_
      repeat (first | tbr_iter "zst" | tbr_iter "zcb" | (with_reducible first|refine lo202_some ‹_› ?_|refine lo202_names ‹_› ?_|refine lo202_name ‹_› ?_))
      refine u_method (S3.N _ (.head _)).1 ?_
      repeat (first | tbr_iter "zst" | tbr_iter "zcb" | (with_reducible first|refine lo202_some ‹_› ?_|refine lo202_names ‹_› ?_|refine lo202_name ‹_› ?_))
      refine u_append S3 hlen ?_
      intro h4 S4 k4
      repeat (first | tbr_iter "zst")
      refine forK_next (fun c hc o e => k4 c o ?_ (k3 c o ?_ e)) (hJ S4 (pone_new q).symm)
      · rcases List.mem_cons.mp hc with rfl | hc
        · exact fun q => Ia (List.mem_singleton.mp q)
        · rw [List.mem_singleton.mp hc]; exact fun q => ne (List.mem_singleton.mp q).symm
      · rcases List.mem_cons.mp hc with rfl | hc
        · exact IL
        · rw [List.mem_singleton.mp hc]; exact bL
  · rintro h tk2 ⟨o, J⟩
    rw [hv.length, List.take_length] at J
    repeat (first | tbr_iter "zst")
    exact r_ret J kg (J.N _ (.head _)).1
theorem sp_put {a b me : Addr} {ls ns : List Str} {vs : List Value} (R : Room 1 A) (B : Bs w h₀) (k₀ : h₀.StaysIn s.heap) (ha : Has s.heap (a, isStrs ls)) (hn : h₀.get? a = none) (hb : s.heap.IsList b vs.toArray) (hv : StrsAre vs ns) (ne : a ≠ b) (hz : ls.length + ns.length ≤ 9000) :
    wpAny (model PW w) A (call (.ref 164) [.ref me, .ref a, .ref b]) (Ret s [a] fun _ h' => Has h' (a, isStrs (putO ls ns))) NoE s := by
  refine en164 R B k₀ [(a, isStrs ls)] (fun p hp => by rw [List.mem_singleton.mp hp]; exact ⟨ha, hn⟩) ?_
  intro g L h₁ tk SS hg kg kg' k₁ R'
  have hb₁ : h₁.IsList b vs.toArray := hb.at fun o e => k₁ _ _ e
  obtain ⟨ob, eb, _⟩ := id hb
  have gb : g.get? b = some ob := kg b ob (fun q => ne (List.mem_singleton.mp q).symm) eb
  have bL : b ≠ L := fun q => by have := SS.gL; rw [← q, gb] at this; cases this
  have aL := (SS.N _ (.head _)).2.1
  refine x_cons ?_
  refine r_for ?_ (by intro x; with_unfolding_all rfl)
  repeat (first | (with_reducible first|refine lo164_self ‹_› ?_|refine lo164_some ‹_› ?_|refine lo164_names ‹_› ?_|refine lo164_name ‹_› ?_))
  refine ⟨h₁, tk, [b], vs.length, _, rfl, IterOf.list R'.1 hb₁, fun I hI => ?_⟩
  have Ia : I ≠ a := fun q => by obtain ⟨o, e, _⟩ := (SS.N _ (.head _)).1; rw [q, show h₁.get? a = some o from e] at hI; cases hI
  have IL : I ≠ L := fun q => SS.low (q ▸ hI)
  refine ⟨fun i h => ∃ o, St w g L (V164 (some (.ref me)) (some (.ref a)) (some (.ref b)) o) [(a, isStrs (putO ls (ns.take i)))] h, fun h2 k2 => ⟨none, SS.keeps k2⟩, ?_, ?_, ?_⟩
  · rintro i h h' ⟨o, J⟩ hT k
    exact ⟨o, SS.off (X := [I]) (fun i hi => by rw [List.mem_singleton.mp hi]; exact hI) J (List.forall_mem_singleton.mpr ⟨_, .head _⟩) k⟩
  · rintro i v h tk2 hi hP ⟨o, J⟩ hex
    obtain ⟨x, t, hx, rfl⟩ := strs_at hv hP
    have hl0 := putO_len (l := ls) (ns := ns.take i)
    have hl1 : (ns.take i).length ≤ ns.length := by rw [List.length_take]; omega
    have hlen : (putO ls (ns.take i)).length ≤ 10000 := by omega
    refine so164_name J ?_
    intro h3 tk3 S3 k3
    repeat (first | tbr_iter "zst" | (with_reducible first|refine lo164_self ‹_› ?_|refine lo164_some ‹_› ?_|refine lo164_names ‹_› ?_|refine lo164_name ‹_› ?_))
    refine c_notin (S3.N _ (.head _)).1 ?_
    repeat (first | tbr_iter "zst" | (with_reducible first|refine lo164_self ‹_› ?_|refine lo164_some ‹_› ?_|refine lo164_names ‹_› ?_|refine lo164_name ‹_› ?_))
    have hJ : ∀ {h4 : Heap} {z : List Str}, St w g L (V164 (some (.ref me)) (some (.ref a)) (some (.ref b)) (some (.str x t))) [(a, isStrs z)] h4 → z = pone (putO ls (ns.take i)) x → ∃ o, St w g L (V164 (some (.ref me)) (some (.ref a)) (some (.ref b)) o) [(a, isStrs (putO ls (ns.take (i + 1))))] h4 := fun S4 e => ⟨_, by rw [putO_take hx, ← e]; exact S4⟩
    by_cases q : x ∈ putO ls (ns.take i)
    · refine ite_neg (by rw [any_eq.mpr q]; decide) ?_
      repeat (first | tbr_iter "zst")
      refine forK_next (fun c hc o e => k3 c o ?_ e) (hJ S3 (pone_mem q).symm)
      rcases List.mem_cons.mp hc with rfl | hc
      · exact IL
      · rw [List.mem_singleton.mp hc]; exact bL
    · have q' : ((putO ls (ns.take i)).any (· == x)) = false := by
        cases e : (putO ls (ns.take i)).any (· == x) with
        | false => rfl
        | true => exact absurd (any_eq.mp e) q
      refine ite_pos (by rw [q']; decide) ?_
      repeat (first | tbr_iter "zst" | tbr_iter "zcb" | (with_reducible first|refine lo164_self ‹_› ?_|refine lo164_some ‹_› ?_|refine lo164_names ‹_› ?_|refine lo164_name ‹_› ?_))
      refine u_method (S3.N _ (.head _)).1 ?_
      repeat (first | tbr_iter "zst" | tbr_iter "zcb" | (with_reducible first|refine lo164_self ‹_› ?_|refine lo164_some ‹_› ?_|refine lo164_names ‹_› ?_|refine lo164_name ‹_› ?_))
      refine u_append S3 hlen ?_
      intro h4 S4 k4
      repeat (first | tbr_iter "zst")
      refine forK_next (fun c hc o e => k4 c o ?_ (k3 c o ?_ e)) (hJ S4 (pone_new q).symm)
      · rcases List.mem_cons.mp hc with rfl | hc
        · exact fun q => Ia (List.mem_singleton.mp q)
        · rw [List.mem_singleton.mp hc]; exact fun q => ne (List.mem_singleton.mp q).symm
      · rcases List.mem_cons.mp hc with rfl | hc
        · exact IL
        · rw [List.mem_singleton.mp hc]; exact bL
  · rintro h tk2 ⟨o, J⟩
    rw [hv.length, List.take_length] at J
    repeat (first | tbr_iter "zst")
    exact r_ret J kg (J.N _ (.head _)).1
end

section
variable {w : World} {A : Around} {s : Shared} {h₀ g h h' : Heap} {L : Addr} {l : LM} {led : Led} {tk : Nat} {E : Value → Shared → Prop} {Q : Value → Shared → Prop}
/-- a call that writes nothing of the caller's -/
theorem u_pure {t : Sem Value} {Φ : Value → Heap → Prop} (SS : St w g L l led h) (sp : wpAny (model PW w) A t (Ret (up s h tk) [] Φ) NoE (up s h tk))
    (q : ∀ r h' tk', h.StaysIn h' → St w g L l led h' → Φ r h' → Q r (up s h' tk')) : (KK w.params).In (up s h tk).heap ∧ wpAny (model PW w) A t Q E (up s h tk) :=
  ⟨SS.kin, r_use sp fun r h' tk' k φ => q r h' tk' (fun b o e => k b o (fun q => nomatch q) e) (SS.keeps fun b o e => k b o (fun q => nomatch q) e) φ⟩
theorem unpack_n {t : Addr} {items : Array Value} {n : Nat} {Q : List Value → Shared → Prop} (hh : A.handled = none) (ht : IsTup s.heap t items) (hn : n = items.size)
    (hQ : ∀ h', Heap.ExtBut s.heap.objs.size s.heap h' → Q items.toList { s with heap := h' }) : wpAny (model PW w) A (unpackItems (.ref t) n none) Q E s := by
  subst hn; exact unpackItems_tuple hh ht hQ
theorem x_two {env : Env} {x y : Str} {px py tp pos : Pos} {k : Nat} {value : Expr} {rest : List Stmt} {Q : Flow → Shared → Prop} (hh : A.handled = none)
    (hx : wpAny (model PW w) A (eval value env) (fun v s₁ => ∃ (h : Heap) (tk : Nat) (t : Addr) (v1 v2 : Value), s₁ = up s h tk ∧ v = .ref t ∧ IsTup h t [v1, v2].toArray ∧ ∀ h' tk', h.StaysIn h' →
      wpAny (model PW w) A (storeName env y v2) (fun _ s₂ => wpAny (model PW w) A (storeName env x v1) (fun _ s₃ => wpAny (model PW w) A (execs rest env) Q E s₃) E s₂) E (up s h' tk')) E s)
    (hs : swapsWithSole [.Tuple [.Name x px, .Name y py] k tp] value pos.line env = pure false)
    (hw : swappedStores [.Tuple [.Name x px, .Name y py] k tp] value env = pure (some [x, y])) :
    wpAny (model PW w) A (execs (.Assign [.Tuple [.Name x px, .Name y py] k tp] value pos :: rest) env) Q E s := by
  refine wpAny_execs_cons ?_
  refine Assign_Tuple_swapped ?_ hs hw
  refine (wpAny_mono hx (fun v s₁ hv => ?_) fun _ _ x => x)
  obtain ⟨h, tk, t, v1, v2, rfl, rfl, ht, q⟩ := hv
  refine unpack_n (s := up s h tk) hh ht (n := 2) rfl fun h' he => ?_
  have z := q h' tk fun b o e => he b o (Nat.ne_of_lt (Heap.lt_size e)) e
  show wpAny (model PW w) A (do holding [v1] (bindName env y v2); do holding [] (bindName env x v1); pure ()) (fun _ s₂ => wpAny (model PW w) A (execs rest env) Q E s₂) E (up s h' tk)
  exact wpAny_bind (wpAny_holding (wpAny_bindName (wpAny_mono z (fun _ s₂ z₂ => wpAny_bind (wpAny_holding (wpAny_bindName (wpAny_mono z₂ (fun _ _ z₃ => wpAny_pure z₃) fun _ _ x => x)))) fun _ _ x => x)))
end

section
variable {w : World} {A : Around} {s : Shared} {h₀ : Heap}
/-- a list of these names, new -/
noncomputable def NewStrs (s : Shared) (ls : List Str) (r : Value) (h' : Heap) : Prop := ∃ b, r = .ref b ∧ s.heap.get? b = none ∧ Has h' (b, isStrs ls)
theorem newStrs_of {g h h' : Heap} {L a : Addr} {l : LM} {led : Led} {ls : List Str} {vs : List Value} (SS : St w g L l led h) (kg : ∀ b o, b ∉ (([] : Led).map (·.1)) → s.heap.get? b = some o → g.get? b = some o) (ea : a = h.objs.size) (e : h'.get? a = some (lstNew vs)) (hv : StrsAre vs ls) : NewStrs s ls (.ref a) h' :=
  ⟨a, rfl, none_of kg (ea ▸ SS.fresh.1), _, e, vs, 0, hv, rfl⟩
theorem NewStrs.back {h h' : Heap} {tk : Nat} {ls : List Str} {r : Value} (k : s.heap.StaysIn h) (x : NewStrs (up s h tk) ls r h') : NewStrs s ls r h' := by
  obtain ⟨b, e, hb, y⟩ := x
  refine ⟨b, e, ?_, y⟩
  cases q : s.heap.get? b with
  | none => rfl
  | some o => have := k b o q; rw [show h.get? b = none from hb] at this; cases this
theorem sp_lt_sym {v : Value} {x : Str} (R : Room 1 A) (B : Bs w h₀) (k₀ : h₀.StaysIn s.heap) (ht : TreeAt s.heap v (.sym x)) :
    wpAny (model PW w) A (call (.ref 317) [v]) (Ret s [] (NewStrs s [x])) NoE s := by
  refine en317 R B k₀ [] (fun p hp => nomatch hp) ?_
  intro g L h₁ tk SS hg kg kg' k₁ R'
  have ht' := ht.kg kg noTup_nil
  refine x_if ?_
  cases ht' with
  | sym hx =>
    repeat (first | tbr_iter "zst" | (with_reducible first|refine lo317_place ‹_› ?_|refine ca317_law_targets ‹_› (by with_unfolding_all rfl) (by with_unfolding_all rfl) ?_ (by with_unfolding_all rfl)|refine lo317_law_targets ‹_› ?_) | tbr_iter "zit" | tbr_iter "zif")
    refine r_newList ?_ (by exact Nat.le_of_ble_eq_true rfl)
    intro h2 a k2 ea e2
    exact r_ret (SS.keeps k2) kg (newStrs_of SS kg ea e2 (.cons _ _ .nil))
theorem sp_lt {v : Value} {P : Place} (R : Room 2 A) (B : Bs w h₀) (k₀ : h₀.StaysIn s.heap) (ht : TreeAt s.heap v P.t) :
    wpAny (model PW w) A (call (.ref 317) [v]) (Ret s [] (NewStrs s P.xs)) NoE s := by
  cases P with
  | nm x => exact sp_lt_sym (R.le (by decide)) B k₀ ht
  | typed x =>
    refine en317 R B k₀ [] (fun p hp => nomatch hp) ?_
    intro g L h₁ tk SS hg kg kg' k₁ R'
    have ht' := ht.kg kg noTup_nil
    refine x_if ?_
    cases ht' with
    | node h1 h2 h3 =>
      cases h3 with
      | cons t1 h3 =>
        cases h3 with
        | cons t2 h3 =>
          cases h3
          repeat (first | tbr_iter "zst" | (with_reducible first|refine lo317_place ‹_› ?_|refine ca317_law_targets ‹_› (by with_unfolding_all rfl) (by with_unfolding_all rfl) ?_ (by with_unfolding_all rfl)|refine lo317_law_targets ‹_› ?_) | tbr_iter "zit" | tbr_iter "zif")
          refine u_pure SS (sp_lt_sym R' B (fun b o e => SS.F.keep b o (hg b o e)) (t1.mono (TupKeep.of_stays SS.F.keep))) ?_
          rintro r h4 tk4 k4 S4 x4
          repeat (first | tbr_iter "zst")
          exact r_ret S4 kg (x4.back k₁)
  | dot x =>
    refine en317 R B k₀ [] (fun p hp => nomatch hp) ?_
    intro g L h₁ tk SS hg kg kg' k₁ R'
    have ht' := ht.kg kg noTup_nil
    refine x_if ?_
    cases ht' with
    | node h1 h2 h3 =>
      repeat (first | tbr_iter "zst" | (with_reducible first|refine lo317_place ‹_› ?_|refine ca317_law_targets ‹_› (by with_unfolding_all rfl) (by with_unfolding_all rfl) ?_ (by with_unfolding_all rfl)|refine lo317_law_targets ‹_› ?_) | tbr_iter "zit" | tbr_iter "zif")
      refine r_newList ?_ (by exact Nat.le_of_ble_eq_true rfl)
      intro h2 a k2 ea e2
      exact r_ret (SS.keeps k2) kg (newStrs_of SS kg ea e2 .nil)
  | tup x y =>
    refine en317 R B k₀ [] (fun p hp => nomatch hp) ?_
    intro g L h₁ tk SS hg kg kg' k₁ R'
    have ht' := ht.kg kg noTup_nil
    refine x_if ?_
    cases ht' with
    | node h1 h2 h3 =>
      repeat (first | tbr_iter "zst" | (with_reducible first|refine lo317_place ‹_› ?_|refine ca317_law_targets ‹_› (by with_unfolding_all rfl) (by with_unfolding_all rfl) ?_ (by with_unfolding_all rfl)|refine lo317_law_targets ‹_› ?_) | tbr_iter "zit" | tbr_iter "zif")
      refine r_listcomp (cl := []) (x := S "part") (by with_unfolding_all rfl) (by decide +kernel) (by with_unfolding_all rfl) (by decide +kernel) (by with_unfolding_all rfl) ?_ (by intro x; with_unfolding_all rfl)
      cases h3 with
      | cons t1 h3 =>
        cases h3 with
        | cons t2 h3 =>
          cases h3
          cases t1 with
          | sym i1 =>
          cases t2 with
          | sym i2 =>
          repeat (first | tbr_iter "zst" | (with_reducible first|refine lo317_place ‹_› ?_|refine ca317_law_targets ‹_› (by with_unfolding_all rfl) (by with_unfolding_all rfl) ?_ (by with_unfolding_all rfl)|refine lo317_law_targets ‹_› ?_) | tbr_iter "zit" | tbr_iter "zif")
          refine ⟨h₁, _, _, 2, _, rfl, IterOf.tup R'.1 (h2.keeps SS.F.keep), by decide, fun I D C hI hD hC hCD => ?_⟩
          have ne : ∀ b o, h₁.get? b = some o → b ∉ [C, D, I] := fun b o e q => by
            rcases List.mem_cons.mp q with rfl | q
            · rw [hC] at e; cases e
            · rcases List.mem_cons.mp q with rfl | q
              · rw [hD] at e; cases e
              · rw [List.mem_singleton.mp q, hI] at e; cases e
          refine ⟨fun i ys h => (∀ b o, g.get? b = some o → h.get? b = some o) ∧ StrsAre ys ([x, y].take i), fun h4 k4 => ⟨(SS.keeps k4).F.keep, .nil⟩, ?_, ?_, ?_⟩
          · rintro i ys h h' X ⟨j1, j2⟩ hX hT hk
            exact ⟨fun b o e => hk _ _ (fun q => ne b o (SS.F.keep _ _ e) (hX b q)) (j1 b o e), j2⟩
          · rintro i v ys h tk mm hi hv ⟨j1, j2⟩ hns hm hy ⟨oI, eI⟩ ⟨oD, eD⟩
            refine forIn_nil_ ?_
            refine if_true_ ?_
            repeat (first | tbr_iter "zst")
            refine wpAny_Name (wpAny_loadName_local (by with_unfolding_all rfl) (by with_unfolding_all rfl) hns hm ?_) (by decide)
            repeat (first | tbr_iter "zst")
            have ii : i = 0 ∨ i = 1 := by omega
            rcases ii with rfl | rfl
            · cases hv
              refine item_tupleT (i1.keeps j1) (by decide) (by decide) rfl rfl ?_ (by with_unfolding_all rfl)
              exact ⟨h, _, rfl, fun _ _ _ e => e, j1, j2.append' (.cons _ _ .nil)⟩
            · cases hv
              refine item_tupleT (i2.keeps j1) (by decide) (by decide) rfl rfl ?_ (by with_unfolding_all rfl)
              exact ⟨h, _, rfl, fun _ _ _ e => e, j1, j2.append' (.cons _ _ .nil)⟩
          · rintro h tk ys ⟨j1, j2⟩ ⟨o, e, n, rfl⟩
            repeat (first | tbr_iter "zst")
            refine ⟨h, tk, rfl, fun b o nb e => j1 b o (kg b o nb e), D, rfl, ?_, _, e, ys, n, j2, rfl⟩
            cases q : s.heap.get? D with
            | none => rfl
            | some o => rw [k₁ _ _ q] at hD; cases hD
end

section
variable {w : World} {A : Around} {s : Shared} {g h h' : Heap} {L : Addr} {l : LM} {tk : Nat} {E : Value → Shared → Prop} {Q : Value → Shared → Prop}
theorem St.upd {pre post : Led} {a : Addr} {P P' : OP} (SS : St w g L l (pre ++ (a, P) :: post) h) (ne : ∀ p ∈ pre ++ post, p.1 ≠ a) (k : ∀ b o, b ∉ [a] → h.get? b = some o → h'.get? b = some o) (x : Has h' (a, P')) : St w g L l (pre ++ (a, P') :: post) h' := by
  have z := (SS.N (a, P) (List.mem_append_right _ (.head _))).2
  refine SS.but k (fun b hb => by rw [List.mem_singleton.mp hb]; exact z) fun p hp => ?_
  rcases List.mem_append.mp hp with hp | hp
  · exact .inl ⟨List.mem_append_left _ hp, fun q => ne p (List.mem_append_left _ hp) (List.mem_singleton.mp q)⟩
  · rcases List.mem_cons.mp hp with rfl | hp
    · exact .inr ⟨.head _, x⟩
    · exact .inl ⟨List.mem_append_right _ (.tail _ hp), fun q => ne p (List.mem_append_right _ hp) (List.mem_singleton.mp q)⟩
theorem sameBut_keep {a : Addr} (hs : Heap.SameBut a h h') : ∀ b o, b ∉ [a] → h.get? b = some o → h'.get? b = some o := fun b o nb e => (hs.2 b fun q => nb (by rw [q]; exact .head _)).trans e
theorem m_extend_l {a b : Addr} {vs us : List Value} {n m : Nat} (ha : h.get? a = some { cls := .type "list", data := .seq vs.toArray n }) (hb : h.get? b = some { cls := .type "list", data := .seq us.toArray m }) (hz : vs.length + us.length ≤ 10000)
    (q : ∀ h', Has h' (a, isPL (vs ++ us)) → (∀ c o, c ∉ [a] → h.get? c = some o → h'.get? c = some o) → Q .none (up s h' tk)) : wpAny (model PW w) A (call (.builtin "list.extend") [.ref a, .ref b]) Q E (up s h tk) := by
  have z : vs.toArray.size + us.toArray.size ≤ sizeLine := by rw [List.size_toArray, List.size_toArray]; simp only [sizeLine]; omega
  refine call_meets PySem.F.slot_list_extend ⟨_, ha, rfl⟩ PySem.F.entry_list_extend (PySem.F.args_list_extend_2 _ _) (AutoSeq1.list_extend_list_list_0 a vs.toArray n b us.toArray m (extend_door z) (by omega) (by omega)) ⟨ha, hb, q _ ?_ (sameBut_keep (Heap.SameBut.update ..))⟩
  exact ⟨_, Heap.get?_update_self _ ha rfl, _, by rw [mapSeq_app, show vs.toArray ++ us.toArray = (vs ++ us).toArray from by simp]⟩
theorem m_extend_t {a b : Addr} {vs us : List Value} {n m : Nat} (ha : h.get? a = some { cls := .type "list", data := .seq vs.toArray n }) (hb : h.get? b = some { cls := .type "tuple", data := .seq us.toArray m }) (hz : vs.length + us.length ≤ 10000)
    (q : ∀ h', Has h' (a, isPL (vs ++ us)) → (∀ c o, c ∉ [a] → h.get? c = some o → h'.get? c = some o) → Q .none (up s h' tk)) : wpAny (model PW w) A (call (.builtin "list.extend") [.ref a, .ref b]) Q E (up s h tk) := by
  have z : vs.toArray.size + us.toArray.size ≤ sizeLine := by rw [List.size_toArray, List.size_toArray]; simp only [sizeLine]; omega
  refine call_meets PySem.F.slot_list_extend ⟨_, ha, rfl⟩ PySem.F.entry_list_extend (PySem.F.args_list_extend_2 _ _) (AutoSeq1.list_extend_list_tuple_0 a vs.toArray n b us.toArray m (extend_door z) (by omega) (by omega)) ⟨ha, hb, q _ ?_ (sameBut_keep (Heap.SameBut.update ..))⟩
  exact ⟨_, Heap.get?_update_self _ ha rfl, _, by rw [mapSeq_app, show vs.toArray ++ us.toArray = (vs ++ us).toArray from by simp]⟩
theorem m_pop {a : Addr} {vs : List Value} {v : Value} {n : Nat} (ha : h.get? a = some { cls := .type "list", data := .seq (vs ++ [v]).toArray n }) (hz : vs.length ≤ 10000)
    (q : ∀ h', Has h' (a, isPL vs) → (∀ c o, c ∉ [a] → h.get? c = some o → h'.get? c = some o) → Q v (up s h' tk)) : wpAny (model PW w) A (call (.builtin "list.pop") [.ref a]) Q E (up s h tk) := by
  have z : (vs ++ [v]).toArray.size ≤ sizeLine := by rw [List.size_toArray, List.length_append, List.length_singleton]; simp only [sizeLine]; omega
  have y : (vs ++ [v]).toArray[(vs ++ [v]).toArray.size - 1]? = some v := by simp
  refine call_meets PySem.F.slot_list_pop ⟨_, ha, rfl⟩ PySem.F.entry_list_pop (PySem.F.args_list_pop_1 _) (PySem.MeetsSeq.list_pop_last a (vs ++ [v]).toArray n v y z) ⟨ha, q _ ?_ (sameBut_keep (Heap.SameBut.update ..))⟩
  refine ⟨_, Heap.get?_update_self _ ha rfl, n + 1, ?_⟩
  have e : (vs ++ [v]).toArray.eraseIdxIfInBounds ((vs ++ [v]).toArray.size - 1) = vs.toArray := by
    simp [Array.eraseIdxIfInBounds]
    rw [List.eraseIdx_append_of_length_le (Nat.le_refl _), Nat.sub_self]; simp
  unfold Obj.mapSeq
  dsimp only
  rw [e]
  simp
theorem m_method {a : Addr} {o : Obj} {name : Str} {id : String} {pl : Sem Bool} {Q : Value × List Value → Shared → Prop} (ha : h.get? a = some o) (hc : o.cls = .type "list") (hd : o.dict = none) (slot : Slot "list" name id) (hty : typeOf (.builtin id) = pure (.type "method_descriptor")) (q : Q (.builtin id, [.ref a]) (up s h tk)) :
    wpAny (model PW w) A (getMethod (.ref a) name pl) Q E (up s h tk) :=
  PySem.getMethod_builtin (s := up s h tk) ⟨o, ha, hc⟩ PySem.F.plainAttrs_list slot hty (fun b e => by cases e; exact ⟨o, ha, hd⟩) q
end

section
variable {w : World} {A : Around} {s : Shared} {h₀ : Heap}
theorem m_len_t {E : Value → Shared → Prop} {h : Heap} {tk : Nat} {t : Addr} {vs : List Value} {Q : Value → Shared → Prop} (ht : IsTup h t vs.toArray) (hz : vs.length ≤ 10000) (q : ∀ u tk', Q (.int (vs.length : Nat) u) (up s h tk')) :
    wpAny (model PW w) A (call (.builtin "len") [.ref t]) Q E (up s h tk) := by
  refine len_tuple (s := up s h tk) ht ?_ ?_
  · rw [List.size_toArray]
    have : (2 : Int) ^ 63 = 9223372036854775808 := by decide
    omega
  · have := q (tk + 1) (tk + 1 + 1)
    rw [List.size_toArray]
    exact this
theorem sp_to_sym {v : Value} {x : Str} (R : Room 2 A) (B : Bs w h₀) (k₀ : h₀.StaysIn s.heap) (ht : TreeAt s.heap v (.sym x)) :
    wpAny (model PW w) A (call (.ref 185) [v]) (Ret s [] (NewStrs s [x])) NoE s := by
  refine en185 R B k₀ [] (fun p hp => nomatch hp) ?_
  intro g L h₁ tk SS hg kg kg' k₁ R'
  have ht' := ht.kg kg noTup_nil
  refine x_if ?_
  repeat (first | tbr_iter "zst" | (with_reducible first|refine lo185_place ‹_› ?_|refine lo185_found ‹_› ?_|refine lo185_part ‹_› ?_|refine ca185_is_sym ‹_› (by with_unfolding_all rfl) (by with_unfolding_all rfl) ?_ (by with_unfolding_all rfl)|refine lo185_is_sym ‹_› ?_|refine ca185_is_expr ‹_› (by with_unfolding_all rfl) (by with_unfolding_all rfl) ?_ (by with_unfolding_all rfl)|refine lo185_is_expr ‹_› ?_|refine lo185_len ‹_› ?_|refine ca185_targets_of ‹_› (by with_unfolding_all rfl) (by with_unfolding_all rfl) ?_ (by with_unfolding_all rfl)|refine lo185_targets_of ‹_› ?_))
  refine u_pure SS (sp_is_sym (R'.le (by decide)) B (fun b o e => SS.F.keep b o (hg b o e)) (ht'.mono (TupKeep.of_stays SS.F.keep))) ?_
  rintro r h2 tk2 k2 S2 rfl
  repeat (first | tbr_iter "zst")
  refine ite_pos rfl ?_
  cases ht' with
  | sym hx =>
    repeat (first | tbr_iter "zst" | (with_reducible first|refine lo185_place ‹_› ?_|refine lo185_found ‹_› ?_|refine lo185_part ‹_› ?_|refine ca185_is_sym ‹_› (by with_unfolding_all rfl) (by with_unfolding_all rfl) ?_ (by with_unfolding_all rfl)|refine lo185_is_sym ‹_› ?_|refine ca185_is_expr ‹_› (by with_unfolding_all rfl) (by with_unfolding_all rfl) ?_ (by with_unfolding_all rfl)|refine lo185_is_expr ‹_› ?_|refine lo185_len ‹_› ?_|refine ca185_targets_of ‹_› (by with_unfolding_all rfl) (by with_unfolding_all rfl) ?_ (by with_unfolding_all rfl)|refine lo185_targets_of ‹_› ?_) | tbr_iter "zit" | tbr_iter "zif")
    refine r_newList ?_ (by exact Nat.le_of_ble_eq_true rfl)
    intro h3 a k3 ea e3
    exact r_ret (S2.keeps k3) kg (newStrs_of S2 kg ea e3 (.cons _ _ .nil))
theorem sp_pn_sym {v : Value} {x : Str} (R : Room 2 A) (B : Bs w h₀) (k₀ : h₀.StaysIn s.heap) (ht : TreeAt s.heap v (.sym x)) :
    wpAny (model PW w) A (call (.ref 209) [v]) (Ret s [] (NewStrs s [x])) NoE s := by
  refine en209 R B k₀ [] (fun p hp => nomatch hp) ?_
  intro g L h₁ tk SS hg kg kg' k₁ R'
  have ht' := ht.kg kg noTup_nil
  refine x_if ?_
  repeat (first | tbr_iter "zst" | tbr_iter "zl209")
  refine u_pure SS (sp_is_sym (R'.le (by decide)) B (fun b o e => SS.F.keep b o (hg b o e)) (ht'.mono (TupKeep.of_stays SS.F.keep))) ?_
  rintro r h2 tk2 k2 S2 rfl
  repeat (first | tbr_iter "zst")
  refine ite_pos rfl ?_
  cases ht' with
  | sym hx =>
    repeat (first | tbr_iter "zst" | tbr_iter "zl209" | tbr_iter "zit" | tbr_iter "zif")
    refine r_newList ?_ (by exact Nat.le_of_ble_eq_true rfl)
    intro h3 a k3 ea e3
    exact r_ret (S2.keeps k3) kg (newStrs_of S2 kg ea e3 (.cons _ _ .nil))
theorem ne_of_bool {b : Bool} (h : b = false) : ¬ (b = true) := by rw [h]; exact Bool.false_ne_true
theorem sp_to {v : Value} {P : Place} (R : Room 3 A) (B : Bs w h₀) (k₀ : h₀.StaysIn s.heap) (ht : TreeAt s.heap v P.t) :
    wpAny (model PW w) A (call (.ref 185) [v]) (Ret s [] (NewStrs s P.xs)) NoE s := by
  cases P with
  | nm x => exact sp_to_sym (R.le (by decide)) B k₀ ht
  | typed x =>
    refine en185 R B k₀ [] (fun p hp => nomatch hp) ?_
    intro g L h₁ tk SS hg kg kg' k₁ R'
    have ht' := ht.kg kg noTup_nil
    refine x_if ?_
    repeat (first | tbr_iter "zst" | (with_reducible first|refine lo185_place ‹_› ?_|refine lo185_found ‹_› ?_|refine lo185_part ‹_› ?_|refine ca185_is_sym ‹_› (by with_unfolding_all rfl) (by with_unfolding_all rfl) ?_ (by with_unfolding_all rfl)|refine lo185_is_sym ‹_› ?_|refine ca185_is_expr ‹_› (by with_unfolding_all rfl) (by with_unfolding_all rfl) ?_ (by with_unfolding_all rfl)|refine lo185_is_expr ‹_› ?_|refine lo185_len ‹_› ?_|refine ca185_targets_of ‹_› (by with_unfolding_all rfl) (by with_unfolding_all rfl) ?_ (by with_unfolding_all rfl)|refine lo185_targets_of ‹_› ?_))
    refine u_pure SS (sp_is_sym (R'.le (by decide)) B (fun b o e => SS.F.keep b o (hg b o e)) (ht'.mono (TupKeep.of_stays SS.F.keep))) ?_
    rintro r h2 tk2 k2 S2 rfl
    repeat (first | tbr_iter "zst")
    refine ite_neg (fun q => nomatch q) ?_
    repeat (first | tbr_iter "zst" | (with_reducible first|refine lo185_place ‹_› ?_|refine lo185_found ‹_› ?_|refine lo185_part ‹_› ?_|refine ca185_is_sym ‹_› (by with_unfolding_all rfl) (by with_unfolding_all rfl) ?_ (by with_unfolding_all rfl)|refine lo185_is_sym ‹_› ?_|refine ca185_is_expr ‹_› (by with_unfolding_all rfl) (by with_unfolding_all rfl) ?_ (by with_unfolding_all rfl)|refine lo185_is_expr ‹_› ?_|refine lo185_len ‹_› ?_|refine ca185_targets_of ‹_› (by with_unfolding_all rfl) (by with_unfolding_all rfl) ?_ (by with_unfolding_all rfl)|refine lo185_targets_of ‹_› ?_) | tbr_iter "zif")
    refine u_pure S2 (sp_is_expr (R'.le (by decide)) B (fun b o e => S2.F.keep b o (hg b o e)) (ht'.mono (TupKeep.of_stays S2.F.keep))) ?_
    rintro r h3 tk3 k3 S3 rfl
    repeat (first | tbr_iter "zst")
    refine ite_pos (by first | kernel_rfl | exact ne_of_bool (by kernel_rfl)) ?_
    have ht3 := ht'
    cases ht3 with
    | node h1 h2 h3 =>
      cases h3 with
      | cons t1 h3 =>
        cases h3 with
        | cons t2 h3 =>
          cases h3
          repeat (first | tbr_iter "zst" | (with_reducible first|refine lo185_place ‹_› ?_|refine lo185_found ‹_› ?_|refine lo185_part ‹_› ?_|refine ca185_is_sym ‹_› (by with_unfolding_all rfl) (by with_unfolding_all rfl) ?_ (by with_unfolding_all rfl)|refine lo185_is_sym ‹_› ?_|refine ca185_is_expr ‹_› (by with_unfolding_all rfl) (by with_unfolding_all rfl) ?_ (by with_unfolding_all rfl)|refine lo185_is_expr ‹_› ?_|refine lo185_len ‹_› ?_|refine ca185_targets_of ‹_› (by with_unfolding_all rfl) (by with_unfolding_all rfl) ?_ (by with_unfolding_all rfl)|refine lo185_targets_of ‹_› ?_) | tbr_iter "zcb" | tbr_iter "zit")
          refine m_len_t (h2.keeps S3.F.keep) (by simp) ?_
          intro u4 tk4
          repeat (first | tbr_iter "zst" | (with_reducible first|refine lo185_place ‹_› ?_|refine lo185_found ‹_› ?_|refine lo185_part ‹_› ?_|refine ca185_is_sym ‹_› (by with_unfolding_all rfl) (by with_unfolding_all rfl) ?_ (by with_unfolding_all rfl)|refine lo185_is_sym ‹_› ?_|refine ca185_is_expr ‹_› (by with_unfolding_all rfl) (by with_unfolding_all rfl) ?_ (by with_unfolding_all rfl)|refine lo185_is_expr ‹_› ?_|refine lo185_len ‹_› ?_|refine ca185_targets_of ‹_› (by with_unfolding_all rfl) (by with_unfolding_all rfl) ?_ (by with_unfolding_all rfl)|refine lo185_targets_of ‹_› ?_) | tbr_iter "zcb" | tbr_iter "zic")
          refine ite_pos rfl ?_
          repeat (first | tbr_iter "zst" | (with_reducible first|refine lo185_place ‹_› ?_|refine lo185_found ‹_› ?_|refine lo185_part ‹_› ?_|refine ca185_is_sym ‹_› (by with_unfolding_all rfl) (by with_unfolding_all rfl) ?_ (by with_unfolding_all rfl)|refine lo185_is_sym ‹_› ?_|refine ca185_is_expr ‹_› (by with_unfolding_all rfl) (by with_unfolding_all rfl) ?_ (by with_unfolding_all rfl)|refine lo185_is_expr ‹_› ?_|refine lo185_len ‹_› ?_|refine ca185_targets_of ‹_› (by with_unfolding_all rfl) (by with_unfolding_all rfl) ?_ (by with_unfolding_all rfl)|refine lo185_targets_of ‹_› ?_) | tbr_iter "zif" | tbr_iter "zit")
          refine u_pure S3 (sp_to_sym R' B (fun b o e => S3.F.keep b o (hg b o e)) (t1.mono (TupKeep.of_stays S3.F.keep))) ?_
          rintro r h5 tk5 k5 S5 x5
          repeat (first | tbr_iter "zst")
          exact r_ret S5 kg (x5.back (fun b o e => k3 b o (k2 b o (k₁ b o e))))
  | dot x =>
    refine en185 R B k₀ [] (fun p hp => nomatch hp) ?_
    intro g L h₁ tk SS hg kg kg' k₁ R'
    have ht' := ht.kg kg noTup_nil
    refine x_if ?_
    repeat (first | tbr_iter "zst" | (with_reducible first|refine lo185_place ‹_› ?_|refine lo185_found ‹_› ?_|refine lo185_part ‹_› ?_|refine ca185_is_sym ‹_› (by with_unfolding_all rfl) (by with_unfolding_all rfl) ?_ (by with_unfolding_all rfl)|refine lo185_is_sym ‹_› ?_|refine ca185_is_expr ‹_› (by with_unfolding_all rfl) (by with_unfolding_all rfl) ?_ (by with_unfolding_all rfl)|refine lo185_is_expr ‹_› ?_|refine lo185_len ‹_› ?_|refine ca185_targets_of ‹_› (by with_unfolding_all rfl) (by with_unfolding_all rfl) ?_ (by with_unfolding_all rfl)|refine lo185_targets_of ‹_› ?_))
    refine u_pure SS (sp_is_sym (R'.le (by decide)) B (fun b o e => SS.F.keep b o (hg b o e)) (ht'.mono (TupKeep.of_stays SS.F.keep))) ?_
    rintro r h2 tk2 k2 S2 rfl
    repeat (first | tbr_iter "zst")
    refine ite_neg (fun q => nomatch q) ?_
    repeat (first | tbr_iter "zst" | (with_reducible first|refine lo185_place ‹_› ?_|refine lo185_found ‹_› ?_|refine lo185_part ‹_› ?_|refine ca185_is_sym ‹_› (by with_unfolding_all rfl) (by with_unfolding_all rfl) ?_ (by with_unfolding_all rfl)|refine lo185_is_sym ‹_› ?_|refine ca185_is_expr ‹_› (by with_unfolding_all rfl) (by with_unfolding_all rfl) ?_ (by with_unfolding_all rfl)|refine lo185_is_expr ‹_› ?_|refine lo185_len ‹_› ?_|refine ca185_targets_of ‹_› (by with_unfolding_all rfl) (by with_unfolding_all rfl) ?_ (by with_unfolding_all rfl)|refine lo185_targets_of ‹_› ?_) | tbr_iter "zif")
    refine u_pure S2 (sp_is_expr (R'.le (by decide)) B (fun b o e => S2.F.keep b o (hg b o e)) (ht'.mono (TupKeep.of_stays S2.F.keep))) ?_
    rintro r h3 tk3 k3 S3 rfl
    repeat (first | tbr_iter "zst")
    refine ite_neg (by first | kernel_rfl | exact ne_of_bool (by kernel_rfl)) ?_
    repeat (first | tbr_iter "zst" | (with_reducible first|refine lo185_place ‹_› ?_|refine lo185_found ‹_› ?_|refine lo185_part ‹_› ?_|refine ca185_is_sym ‹_› (by with_unfolding_all rfl) (by with_unfolding_all rfl) ?_ (by with_unfolding_all rfl)|refine lo185_is_sym ‹_› ?_|refine ca185_is_expr ‹_› (by with_unfolding_all rfl) (by with_unfolding_all rfl) ?_ (by with_unfolding_all rfl)|refine lo185_is_expr ‹_› ?_|refine lo185_len ‹_› ?_|refine ca185_targets_of ‹_› (by with_unfolding_all rfl) (by with_unfolding_all rfl) ?_ (by with_unfolding_all rfl)|refine lo185_targets_of ‹_› ?_) | tbr_iter "zif")
    refine u_pure S3 (sp_is_expr (R'.le (by decide)) B (fun b o e => S3.F.keep b o (hg b o e)) (ht'.mono (TupKeep.of_stays S3.F.keep))) ?_
    rintro r h4 tk4 k4 S4 rfl
    repeat (first | tbr_iter "zst")
    refine ite_neg (by first | kernel_rfl | exact ne_of_bool (by kernel_rfl)) ?_
    repeat (first | tbr_iter "zst" | (with_reducible first|refine lo185_place ‹_› ?_|refine lo185_found ‹_› ?_|refine lo185_part ‹_› ?_|refine ca185_is_sym ‹_› (by with_unfolding_all rfl) (by with_unfolding_all rfl) ?_ (by with_unfolding_all rfl)|refine lo185_is_sym ‹_› ?_|refine ca185_is_expr ‹_› (by with_unfolding_all rfl) (by with_unfolding_all rfl) ?_ (by with_unfolding_all rfl)|refine lo185_is_expr ‹_› ?_|refine lo185_len ‹_› ?_|refine ca185_targets_of ‹_› (by with_unfolding_all rfl) (by with_unfolding_all rfl) ?_ (by with_unfolding_all rfl)|refine lo185_targets_of ‹_› ?_) | tbr_iter "zif")
    refine r_newList ?_ (by exact Nat.le_of_ble_eq_true rfl)
    intro h5 a k5 ea e5
    have an : s.heap.get? a = none := none_of kg (ea ▸ S4.fresh.1)
    have S5 := (S4.keeps k5).add (P := isStrs []) ⟨_, e5, [], 0, .nil, rfl⟩ (ea ▸ S4.fresh.2.1) (ea ▸ S4.fresh.1)
    refine so185_found S5 ?_
    intro h6 tk6 S6 k6
    repeat (first | tbr_iter "zst" | (with_reducible first|refine lo185_place ‹_› ?_|refine lo185_found ‹_› ?_|refine lo185_part ‹_› ?_|refine ca185_is_sym ‹_› (by with_unfolding_all rfl) (by with_unfolding_all rfl) ?_ (by with_unfolding_all rfl)|refine lo185_is_sym ‹_› ?_|refine ca185_is_expr ‹_› (by with_unfolding_all rfl) (by with_unfolding_all rfl) ?_ (by with_unfolding_all rfl)|refine lo185_is_expr ‹_› ?_|refine lo185_len ‹_› ?_|refine ca185_targets_of ‹_› (by with_unfolding_all rfl) (by with_unfolding_all rfl) ?_ (by with_unfolding_all rfl)|refine lo185_targets_of ‹_› ?_))
    refine u_pure S6 (sp_is_expr (R'.le (by decide)) B (fun b o e => S6.F.keep b o (hg b o e)) (ht'.mono (TupKeep.of_stays S6.F.keep))) ?_
    rintro r h7 tk7 k7 S7 rfl
    repeat (first | tbr_iter "zst")
    refine ite_neg (by first | kernel_rfl | exact ne_of_bool (by kernel_rfl)) ?_
    repeat (first | tbr_iter "zst" | (with_reducible first|refine lo185_place ‹_› ?_|refine lo185_found ‹_› ?_|refine lo185_part ‹_› ?_|refine ca185_is_sym ‹_› (by with_unfolding_all rfl) (by with_unfolding_all rfl) ?_ (by with_unfolding_all rfl)|refine lo185_is_sym ‹_› ?_|refine ca185_is_expr ‹_› (by with_unfolding_all rfl) (by with_unfolding_all rfl) ?_ (by with_unfolding_all rfl)|refine lo185_is_expr ‹_› ?_|refine lo185_len ‹_› ?_|refine ca185_targets_of ‹_› (by with_unfolding_all rfl) (by with_unfolding_all rfl) ?_ (by with_unfolding_all rfl)|refine lo185_targets_of ‹_› ?_))
    exact r_ret S7 kg ⟨a, rfl, an, (S7.N _ (.head _)).1⟩
  | tup x y =>
    refine en185 R B k₀ [] (fun p hp => nomatch hp) ?_
    intro g L h₁ tk SS hg kg kg' k₁ R'
    have ht' := ht.kg kg noTup_nil
    refine x_if ?_
    repeat (first | tbr_iter "zst" | (with_reducible first|refine lo185_place ‹_› ?_|refine lo185_found ‹_› ?_|refine lo185_part ‹_› ?_|refine ca185_is_sym ‹_› (by with_unfolding_all rfl) (by with_unfolding_all rfl) ?_ (by with_unfolding_all rfl)|refine lo185_is_sym ‹_› ?_|refine ca185_is_expr ‹_› (by with_unfolding_all rfl) (by with_unfolding_all rfl) ?_ (by with_unfolding_all rfl)|refine lo185_is_expr ‹_› ?_|refine lo185_len ‹_› ?_|refine ca185_targets_of ‹_› (by with_unfolding_all rfl) (by with_unfolding_all rfl) ?_ (by with_unfolding_all rfl)|refine lo185_targets_of ‹_› ?_))
    refine u_pure SS (sp_is_sym (R'.le (by decide)) B (fun b o e => SS.F.keep b o (hg b o e)) (ht'.mono (TupKeep.of_stays SS.F.keep))) ?_
    rintro r h2 tk2 k2 S2 rfl
    repeat (first | tbr_iter "zst")
    refine ite_neg (fun q => nomatch q) ?_
    repeat (first | tbr_iter "zst" | (with_reducible first|refine lo185_place ‹_› ?_|refine lo185_found ‹_› ?_|refine lo185_part ‹_› ?_|refine ca185_is_sym ‹_› (by with_unfolding_all rfl) (by with_unfolding_all rfl) ?_ (by with_unfolding_all rfl)|refine lo185_is_sym ‹_› ?_|refine ca185_is_expr ‹_› (by with_unfolding_all rfl) (by with_unfolding_all rfl) ?_ (by with_unfolding_all rfl)|refine lo185_is_expr ‹_› ?_|refine lo185_len ‹_› ?_|refine ca185_targets_of ‹_› (by with_unfolding_all rfl) (by with_unfolding_all rfl) ?_ (by with_unfolding_all rfl)|refine lo185_targets_of ‹_› ?_) | tbr_iter "zif")
    refine u_pure S2 (sp_is_expr (R'.le (by decide)) B (fun b o e => S2.F.keep b o (hg b o e)) (ht'.mono (TupKeep.of_stays S2.F.keep))) ?_
    rintro r h3 tk3 k3 S3 rfl
    repeat (first | tbr_iter "zst")
    refine ite_neg (by first | kernel_rfl | exact ne_of_bool (by kernel_rfl)) ?_
    repeat (first | tbr_iter "zst" | (with_reducible first|refine lo185_place ‹_› ?_|refine lo185_found ‹_› ?_|refine lo185_part ‹_› ?_|refine ca185_is_sym ‹_› (by with_unfolding_all rfl) (by with_unfolding_all rfl) ?_ (by with_unfolding_all rfl)|refine lo185_is_sym ‹_› ?_|refine ca185_is_expr ‹_› (by with_unfolding_all rfl) (by with_unfolding_all rfl) ?_ (by with_unfolding_all rfl)|refine lo185_is_expr ‹_› ?_|refine lo185_len ‹_› ?_|refine ca185_targets_of ‹_› (by with_unfolding_all rfl) (by with_unfolding_all rfl) ?_ (by with_unfolding_all rfl)|refine lo185_targets_of ‹_› ?_) | tbr_iter "zif")
    refine u_pure S3 (sp_is_expr (R'.le (by decide)) B (fun b o e => S3.F.keep b o (hg b o e)) (ht'.mono (TupKeep.of_stays S3.F.keep))) ?_
    rintro r h4 tk4 k4 S4 rfl
    repeat (first | tbr_iter "zst")
    refine ite_neg (by first | kernel_rfl | exact ne_of_bool (by kernel_rfl)) ?_
    repeat (first | tbr_iter "zst" | (with_reducible first|refine lo185_place ‹_› ?_|refine lo185_found ‹_› ?_|refine lo185_part ‹_› ?_|refine ca185_is_sym ‹_› (by with_unfolding_all rfl) (by with_unfolding_all rfl) ?_ (by with_unfolding_all rfl)|refine lo185_is_sym ‹_› ?_|refine ca185_is_expr ‹_› (by with_unfolding_all rfl) (by with_unfolding_all rfl) ?_ (by with_unfolding_all rfl)|refine lo185_is_expr ‹_› ?_|refine lo185_len ‹_› ?_|refine ca185_targets_of ‹_› (by with_unfolding_all rfl) (by with_unfolding_all rfl) ?_ (by with_unfolding_all rfl)|refine lo185_targets_of ‹_› ?_) | tbr_iter "zif")
    refine r_newList ?_ (by exact Nat.le_of_ble_eq_true rfl)
    intro h5 a k5 ea e5
    have an : s.heap.get? a = none := none_of kg (ea ▸ S4.fresh.1)
    have S5 := (S4.keeps k5).add (P := isStrs []) ⟨_, e5, [], 0, .nil, rfl⟩ (ea ▸ S4.fresh.2.1) (ea ▸ S4.fresh.1)
    refine so185_found S5 ?_
    intro h6 tk6 S6 k6
    repeat (first | tbr_iter "zst" | (with_reducible first|refine lo185_place ‹_› ?_|refine lo185_found ‹_› ?_|refine lo185_part ‹_› ?_|refine ca185_is_sym ‹_› (by with_unfolding_all rfl) (by with_unfolding_all rfl) ?_ (by with_unfolding_all rfl)|refine lo185_is_sym ‹_› ?_|refine ca185_is_expr ‹_› (by with_unfolding_all rfl) (by with_unfolding_all rfl) ?_ (by with_unfolding_all rfl)|refine lo185_is_expr ‹_› ?_|refine lo185_len ‹_› ?_|refine ca185_targets_of ‹_› (by with_unfolding_all rfl) (by with_unfolding_all rfl) ?_ (by with_unfolding_all rfl)|refine lo185_targets_of ‹_› ?_))
    refine u_pure S6 (sp_is_expr (R'.le (by decide)) B (fun b o e => S6.F.keep b o (hg b o e)) (ht'.mono (TupKeep.of_stays S6.F.keep))) ?_
    rintro r h7 tk7 k7 S7 rfl
    repeat (first | tbr_iter "zst")
    refine ite_pos (by first | kernel_rfl | exact ne_of_bool (by kernel_rfl)) ?_
    cases ht' with
    | @node _ p _ _ _ _ _ h1 h2 h3 =>
      cases h3 with
      | cons t1 h3 =>
        cases h3 with
        | cons t2 h3 =>
          cases h3
          refine x_cons ?_
          refine r_for ?_ (by intro x; with_unfolding_all rfl)
          repeat (first | tbr_iter "zst" | (with_reducible first|refine lo185_place ‹_› ?_|refine lo185_found ‹_› ?_|refine lo185_part ‹_› ?_|refine ca185_is_sym ‹_› (by with_unfolding_all rfl) (by with_unfolding_all rfl) ?_ (by with_unfolding_all rfl)|refine lo185_is_sym ‹_› ?_|refine ca185_is_expr ‹_› (by with_unfolding_all rfl) (by with_unfolding_all rfl) ?_ (by with_unfolding_all rfl)|refine lo185_is_expr ‹_› ?_|refine lo185_len ‹_› ?_|refine ca185_targets_of ‹_› (by with_unfolding_all rfl) (by with_unfolding_all rfl) ?_ (by with_unfolding_all rfl)|refine lo185_targets_of ‹_› ?_) | tbr_iter "zit")
          refine ⟨h7, _, [p], 2, _, rfl, IterOf.tup R'.1 (h2.keeps S7.F.keep), fun I hI => ?_⟩
          have aS := S7.N _ (.head _)
          have Ia : I ≠ a := fun q => by obtain ⟨o, e, _⟩ := aS.1; rw [q, show h7.get? a = some o from e] at hI; cases hI
          have IL : I ≠ L := fun q => S7.low (q ▸ hI)
          obtain ⟨op, ep, _⟩ := id h2
          have pa : p ≠ a := fun q => by have := aS.2.2; rw [← q, ep] at this; cases this
          have pL : p ≠ L := fun q => by have := S7.gL; rw [← q, ep] at this; cases this
          refine ⟨fun i h => ∃ o, St w g L (V185 (some _) (some (.ref a)) o) [(a, isStrs ([x, y].take i))] h, fun h8 k8 => ⟨none, S7.keeps k8⟩, ?_, ?_, ?_⟩
          · rintro i h h' ⟨o, J⟩ hT k
            exact ⟨o, S7.off (X := [I]) (fun i hi => by rw [List.mem_singleton.mp hi]; exact hI) J (List.forall_mem_singleton.mpr ⟨_, .head _⟩) k⟩
          · rintro i v h tk8 hi hP ⟨o, J⟩ hex
            have hv : ∃ z, [x, y][i]? = some z ∧ TreeAt g v (.sym z) := by
              have ii : i = 0 ∨ i = 1 := by omega
              rcases ii with rfl | rfl
              · cases hP; exact ⟨x, rfl, t1⟩
              · cases hP; exact ⟨y, rfl, t2⟩
            obtain ⟨z, hz, tv⟩ := hv
            refine so185_part J ?_
            intro h9 tk9 S9 k9
            obtain ⟨vs, n, hvs, ea9⟩ := (S9.N _ (.head _)).1.strs
            repeat (first | tbr_iter "zst" | (with_reducible first|refine lo185_place ‹_› ?_|refine lo185_found ‹_› ?_|refine lo185_part ‹_› ?_|refine ca185_is_sym ‹_› (by with_unfolding_all rfl) (by with_unfolding_all rfl) ?_ (by with_unfolding_all rfl)|refine lo185_is_sym ‹_› ?_|refine ca185_is_expr ‹_› (by with_unfolding_all rfl) (by with_unfolding_all rfl) ?_ (by with_unfolding_all rfl)|refine lo185_is_expr ‹_› ?_|refine lo185_len ‹_› ?_|refine ca185_targets_of ‹_› (by with_unfolding_all rfl) (by with_unfolding_all rfl) ?_ (by with_unfolding_all rfl)|refine lo185_targets_of ‹_› ?_) | tbr_iter "zcb")
            refine m_method ea9 rfl rfl PySem.F.slot_list_extend PySem.F.type_list_extend ?_
            repeat (first | tbr_iter "zst" | (with_reducible first|refine lo185_place ‹_› ?_|refine lo185_found ‹_› ?_|refine lo185_part ‹_› ?_|refine ca185_is_sym ‹_› (by with_unfolding_all rfl) (by with_unfolding_all rfl) ?_ (by with_unfolding_all rfl)|refine lo185_is_sym ‹_› ?_|refine ca185_is_expr ‹_› (by with_unfolding_all rfl) (by with_unfolding_all rfl) ?_ (by with_unfolding_all rfl)|refine lo185_is_expr ‹_› ?_|refine lo185_len ‹_› ?_|refine ca185_targets_of ‹_› (by with_unfolding_all rfl) (by with_unfolding_all rfl) ?_ (by with_unfolding_all rfl)|refine lo185_targets_of ‹_› ?_) | tbr_iter "zcb")
            refine u_pure S9 (sp_to_sym R' B (fun b o e => S9.F.keep b o (hg b o e)) (tv.mono (TupKeep.of_stays S9.F.keep))) ?_
            rintro r h10 tk10 k10 S10 ⟨b, rfl, hb, x10⟩
            obtain ⟨us, m, hus, eb⟩ := x10.strs
            repeat (first | tbr_iter "zst")
            have zv : vs.length ≤ 2 := by rw [hvs.length, List.length_take]; simp; omega
            have zu : us.length = 1 := hus.length
            refine m_extend_l (k10 _ _ ea9) eb (by omega) ?_
            intro h11 x11 k11
            obtain ⟨o11, e11, n11, rfl⟩ := x11
            have S11 := S10.one (P := isStrs ([x, y].take (i + 1))) ⟨_, .head _⟩ k11 ⟨_, e11, _, _, by rw [List.take_add_one, hz]; exact hvs.append' hus, rfl⟩
            repeat (first | tbr_iter "zst")
            refine forK_next (fun c hc o e => k11 c o ?_ (k10 c o (k9 c o ?_ e))) ⟨_, S11⟩
            · rcases List.mem_cons.mp hc with rfl | hc
              · exact fun q => Ia (List.mem_singleton.mp q)
              · rw [List.mem_singleton.mp hc]; exact fun q => pa (List.mem_singleton.mp q)
            · rcases List.mem_cons.mp hc with rfl | hc
              · exact IL
              · rw [List.mem_singleton.mp hc]; exact pL
          · rintro h tk8 ⟨o, J⟩
            repeat (first | tbr_iter "zst" | (with_reducible first|refine lo185_place ‹_› ?_|refine lo185_found ‹_› ?_|refine lo185_part ‹_› ?_|refine ca185_is_sym ‹_› (by with_unfolding_all rfl) (by with_unfolding_all rfl) ?_ (by with_unfolding_all rfl)|refine lo185_is_sym ‹_› ?_|refine ca185_is_expr ‹_› (by with_unfolding_all rfl) (by with_unfolding_all rfl) ?_ (by with_unfolding_all rfl)|refine lo185_is_expr ‹_› ?_|refine lo185_len ‹_› ?_|refine ca185_targets_of ‹_› (by with_unfolding_all rfl) (by with_unfolding_all rfl) ?_ (by with_unfolding_all rfl)|refine lo185_targets_of ‹_› ?_))
            exact r_ret J kg ⟨a, rfl, an, (J.N _ (.head _)).1⟩
end

section
variable {w : World} {A : Around} {s : Shared} {h₀ : Heap}
theorem sp_pn {v : Value} {P : Place} (R : Room 3 A) (B : Bs w h₀) (k₀ : h₀.StaysIn s.heap) (ht : TreeAt s.heap v P.t) :
    wpAny (model PW w) A (call (.ref 209) [v]) (Ret s [] (NewStrs s (putO [] P.xs))) NoE s := by
  cases P with
  | nm x => exact sp_pn_sym (R.le (by decide)) B k₀ ht
  | typed x =>
    refine en209 R B k₀ [] (fun p hp => nomatch hp) ?_
    intro g L h₁ tk SS hg kg kg' k₁ R'
    have ht' := ht.kg kg noTup_nil
    refine x_if ?_
    repeat (first | tbr_iter "zst" | tbr_iter "zl209")
    refine u_pure SS (sp_is_sym (R'.le (by decide)) B (fun b o e => SS.F.keep b o (hg b o e)) (ht'.mono (TupKeep.of_stays SS.F.keep))) ?_
    rintro r h2 tk2 k2 S2 rfl
    repeat (first | tbr_iter "zst")
    refine ite_neg (fun q => nomatch q) ?_
    repeat (first | tbr_iter "zst" | tbr_iter "zl209")
    refine x_two R'.1 ?_ (by with_unfolding_all rfl) (by with_unfolding_all rfl)
    repeat (first | tbr_iter "zst" | tbr_iter "zl209")
    refine u_pure S2 (sp_head_of (R'.le (by decide)) B (fun b o e => S2.F.keep b o (hg b o e)) (ht'.mono (TupKeep.of_stays S2.F.keep))) ?_
    rintro r h3 tk3 k3 S3 ⟨th, rfl⟩
    repeat (first | tbr_iter "zst" | tbr_iter "zl209")
    refine u_pure S3 (sp_parts_of (R'.le (by decide)) B (fun b o e => S3.F.keep b o (hg b o e)) (ht'.mono (TupKeep.of_stays S3.F.keep))) ?_
    rintro r h4 tk4 k4 S4 ⟨p, vs, rfl, hp, hts⟩
    repeat (first | tbr_iter "zst" | tbr_iter "zl209")
    refine r_newTuple ?_ (by exact Nat.le_of_ble_eq_true rfl)
    intro h5 t5 k5 et5 e5
    refine ⟨h5, _, t5, _, _, rfl, rfl, ⟨_, e5, rfl, _, rfl⟩, fun h6 tk6 k6 => ?_⟩
    have S6 := (S4.keeps k5).keeps k6
    refine so209_parts S6 ?_
    intro h7 tk7 S7 k7
    refine so209_head S7 ?_
    intro h8 tk8 S8 k8
    have tkp : TupKeep h4 h8 := (TupKeep.of_stays k5).trans ((TupKeep.of_stays k6).trans ((TupKeep.of_low S6 k7).trans (TupKeep.of_low S7 k8)))
    have hp8 := tkp.tup hp
    have hts8 := hts.mono tkp
    have sk : s.heap.StaysIn h4 := fun b o e => k4 b o (k3 b o (k2 b o (k₁ b o e)))
    repeat (first | tbr_iter "zst" | tbr_iter "zl209")
    refine ite_neg (by first | kernel_rfl | exact ne_of_bool (by kernel_rfl)) ?_
    repeat (first | tbr_iter "zst" | tbr_iter "zl209")
    refine ite_pos (by first | kernel_rfl | exact ne_of_bool (by kernel_rfl)) ?_
    repeat (first | tbr_iter "zst" | tbr_iter "zl209")
    repeat (first | tbr_iter "zst" | tbr_iter "zl209" | tbr_iter "zcb")
    cases hts8 with
    | cons t1 hts8 =>
      cases hts8 with
      | cons t2 hts8 =>
        cases hts8
        refine m_len_t hp8 (by simp) ?_
        intro u9 tk9
        repeat (first | tbr_iter "zst" | tbr_iter "zl209" | tbr_iter "zcb" | tbr_iter "zic")
        refine ite_pos rfl ?_
        repeat (first | tbr_iter "zst" | tbr_iter "zl209" | tbr_iter "zif" | tbr_iter "zit")
        refine u_pure S8 (sp_pn_sym R' B (fun b o e => S8.F.keep b o (hg b o e)) t1) ?_
        rintro r h9 tk10 k9 S9 x9
        repeat (first | tbr_iter "zst")
        refine r_ret S9 kg ?_
        obtain ⟨b, rfl, hb, x9⟩ := x9
        refine ⟨b, rfl, ?_, x9⟩
        cases q : s.heap.get? b with
        | none => rfl
        | some o =>
          have := S8.F.keep b o (kg b o (fun q => nomatch q) q)
          rw [show h8.get? b = none from hb] at this; cases this
  | dot x =>
    refine en209 R B k₀ [] (fun p hp => nomatch hp) ?_
    intro g L h₁ tk SS hg kg kg' k₁ R'
    have ht' := ht.kg kg noTup_nil
    refine x_if ?_
    repeat (first | tbr_iter "zst" | tbr_iter "zl209")
    refine u_pure SS (sp_is_sym (R'.le (by decide)) B (fun b o e => SS.F.keep b o (hg b o e)) (ht'.mono (TupKeep.of_stays SS.F.keep))) ?_
    rintro r h2 tk2 k2 S2 rfl
    repeat (first | tbr_iter "zst")
    refine ite_neg (fun q => nomatch q) ?_
    repeat (first | tbr_iter "zst" | tbr_iter "zl209")
    refine x_two R'.1 ?_ (by with_unfolding_all rfl) (by with_unfolding_all rfl)
    repeat (first | tbr_iter "zst" | tbr_iter "zl209")
    refine u_pure S2 (sp_head_of (R'.le (by decide)) B (fun b o e => S2.F.keep b o (hg b o e)) (ht'.mono (TupKeep.of_stays S2.F.keep))) ?_
    rintro r h3 tk3 k3 S3 ⟨th, rfl⟩
    repeat (first | tbr_iter "zst" | tbr_iter "zl209")
    refine u_pure S3 (sp_parts_of (R'.le (by decide)) B (fun b o e => S3.F.keep b o (hg b o e)) (ht'.mono (TupKeep.of_stays S3.F.keep))) ?_
    rintro r h4 tk4 k4 S4 ⟨p, vs, rfl, hp, hts⟩
    repeat (first | tbr_iter "zst" | tbr_iter "zl209")
    refine r_newTuple ?_ (by exact Nat.le_of_ble_eq_true rfl)
    intro h5 t5 k5 et5 e5
    refine ⟨h5, _, t5, _, _, rfl, rfl, ⟨_, e5, rfl, _, rfl⟩, fun h6 tk6 k6 => ?_⟩
    have S6 := (S4.keeps k5).keeps k6
    refine so209_parts S6 ?_
    intro h7 tk7 S7 k7
    refine so209_head S7 ?_
    intro h8 tk8 S8 k8
    have tkp : TupKeep h4 h8 := (TupKeep.of_stays k5).trans ((TupKeep.of_stays k6).trans ((TupKeep.of_low S6 k7).trans (TupKeep.of_low S7 k8)))
    have hp8 := tkp.tup hp
    have hts8 := hts.mono tkp
    have sk : s.heap.StaysIn h4 := fun b o e => k4 b o (k3 b o (k2 b o (k₁ b o e)))
    repeat (first | tbr_iter "zst" | tbr_iter "zl209")
    refine ite_neg (by first | kernel_rfl | exact ne_of_bool (by kernel_rfl)) ?_
    repeat (first | tbr_iter "zst" | tbr_iter "zl209")
    refine ite_neg (by first | kernel_rfl | exact ne_of_bool (by kernel_rfl)) ?_
    repeat (first | tbr_iter "zst" | tbr_iter "zl209")
    repeat (first | tbr_iter "zst" | tbr_iter "zl209" | tbr_iter "zif")
    refine r_newList ?_ (by exact Nat.le_of_ble_eq_true rfl)
    intro h9 a k9 ea e9
    have an : s.heap.get? a = none := none_of kg (ea ▸ S8.fresh.1)
    have S9 := (S8.keeps k9).add (P := isStrs []) ⟨_, e9, [], 0, .nil, rfl⟩ (ea ▸ S8.fresh.2.1) (ea ▸ S8.fresh.1)
    refine so209_found S9 ?_
    intro h10 tk10 S10 k10
    repeat (first | tbr_iter "zst" | tbr_iter "zl209")
    refine ite_neg (by first | kernel_rfl | exact ne_of_bool (by kernel_rfl)) ?_
    repeat (first | tbr_iter "zst" | tbr_iter "zl209")
    exact r_ret S10 kg ⟨a, rfl, an, (S10.N _ (.head _)).1⟩
  | tup x y =>
    refine en209 R B k₀ [] (fun p hp => nomatch hp) ?_
    intro g L h₁ tk SS hg kg kg' k₁ R'
    have ht' := ht.kg kg noTup_nil
    refine x_if ?_
    repeat (first | tbr_iter "zst" | tbr_iter "zl209")
    refine u_pure SS (sp_is_sym (R'.le (by decide)) B (fun b o e => SS.F.keep b o (hg b o e)) (ht'.mono (TupKeep.of_stays SS.F.keep))) ?_
    rintro r h2 tk2 k2 S2 rfl
    repeat (first | tbr_iter "zst")
    refine ite_neg (fun q => nomatch q) ?_
    repeat (first | tbr_iter "zst" | tbr_iter "zl209")
    refine x_two R'.1 ?_ (by with_unfolding_all rfl) (by with_unfolding_all rfl)
    repeat (first | tbr_iter "zst" | tbr_iter "zl209")
    refine u_pure S2 (sp_head_of (R'.le (by decide)) B (fun b o e => S2.F.keep b o (hg b o e)) (ht'.mono (TupKeep.of_stays S2.F.keep))) ?_
    rintro r h3 tk3 k3 S3 ⟨th, rfl⟩
    repeat (first | tbr_iter "zst" | tbr_iter "zl209")
    refine u_pure S3 (sp_parts_of (R'.le (by decide)) B (fun b o e => S3.F.keep b o (hg b o e)) (ht'.mono (TupKeep.of_stays S3.F.keep))) ?_
    rintro r h4 tk4 k4 S4 ⟨p, vs, rfl, hp, hts⟩
    repeat (first | tbr_iter "zst" | tbr_iter "zl209")
    refine r_newTuple ?_ (by exact Nat.le_of_ble_eq_true rfl)
    intro h5 t5 k5 et5 e5
    refine ⟨h5, _, t5, _, _, rfl, rfl, ⟨_, e5, rfl, _, rfl⟩, fun h6 tk6 k6 => ?_⟩
    have S6 := (S4.keeps k5).keeps k6
    refine so209_parts S6 ?_
    intro h7 tk7 S7 k7
    refine so209_head S7 ?_
    intro h8 tk8 S8 k8
    have tkp : TupKeep h4 h8 := (TupKeep.of_stays k5).trans ((TupKeep.of_stays k6).trans ((TupKeep.of_low S6 k7).trans (TupKeep.of_low S7 k8)))
    have hp8 := tkp.tup hp
    have hts8 := hts.mono tkp
    have sk : s.heap.StaysIn h4 := fun b o e => k4 b o (k3 b o (k2 b o (k₁ b o e)))
    repeat (first | tbr_iter "zst" | tbr_iter "zl209")
    refine ite_neg (by first | kernel_rfl | exact ne_of_bool (by kernel_rfl)) ?_
    repeat (first | tbr_iter "zst" | tbr_iter "zl209")
    refine ite_neg (by first | kernel_rfl | exact ne_of_bool (by kernel_rfl)) ?_
    repeat (first | tbr_iter "zst" | tbr_iter "zl209")
    repeat (first | tbr_iter "zst" | tbr_iter "zl209" | tbr_iter "zif")
    refine r_newList ?_ (by exact Nat.le_of_ble_eq_true rfl)
    intro h9 a k9 ea e9
    have an : s.heap.get? a = none := none_of kg (ea ▸ S8.fresh.1)
    have S9 := (S8.keeps k9).add (P := isStrs []) ⟨_, e9, [], 0, .nil, rfl⟩ (ea ▸ S8.fresh.2.1) (ea ▸ S8.fresh.1)
    refine so209_found S9 ?_
    intro h10 tk10 S10 k10
    repeat (first | tbr_iter "zst" | tbr_iter "zl209")
    refine ite_pos (by first | kernel_rfl | exact ne_of_bool (by kernel_rfl)) ?_
    repeat (first | tbr_iter "zst" | tbr_iter "zl209")
    cases hts8 with
    | @cons a1 _ _ _ t1 hts8 =>
      cases hts8 with
      | @cons a2 _ _ _ t2 hts8 =>
        cases hts8
        have h0a : h₀.get? a = none := by
          cases q : h₀.get? a with
          | none => rfl
          | some o => rw [k₀ _ _ q] at an; cases an
        refine x_cons ?_
        refine r_for ?_ (by intro x; with_unfolding_all rfl)
        repeat (first | tbr_iter "zst" | tbr_iter "zl209" | tbr_iter "zit")
        have k810 : ∀ b o, b ≠ L → h8.get? b = some o → h10.get? b = some o := fun b o nb e => k10 b o nb (k9 b o e)
        have tk810 : TupKeep h8 h10 := (TupKeep.of_stays k9).trans (TupKeep.of_low S9 k10)
        have hp10 := tk810.tup hp8
        replace t1 := t1.mono tk810
        replace t2 := t2.mono tk810
        refine ⟨h10, _, [p], 2, _, rfl, IterOf.tup R'.1 hp10, fun I hI => ?_⟩
        have aS := S10.N _ (.head _)
        have Ia : I ≠ a := fun q => by obtain ⟨o, e, _⟩ := aS.1; rw [q, show h10.get? a = some o from e] at hI; cases hI
        have IL : I ≠ L := fun q => S10.low (q ▸ hI)
        have pa : p ≠ a := fun q => by obtain ⟨o, e, c, _⟩ := hp10; obtain ⟨_, n, _, e'⟩ := aS.1.strs; rw [q, e'] at e; cases e; exact absurd (Value.type.inj c) (by decide)
        have pL : p ≠ L := fun q => by
          obtain ⟨o, e, c, n, d⟩ := hp10; obtain ⟨o', es, ep, e', d', _⟩ := S10.F.ns; rw [q, e'] at e; cases e; rw [d] at d'; cases d'
        have nT : NoTup h10 [I, a, L] := by
          intro b hb o e q
          rcases List.mem_cons.mp hb with rfl | hb
          · rw [hI] at e; cases e
          · rcases List.mem_cons.mp hb with rfl | hb
            · exact noTup_strs aS.1 _ (.head _) _ e q
            · rw [List.mem_singleton.mp hb] at e; exact noTup_ns S10.F.ns _ (.head _) _ e q
        refine ⟨fun i h => ∃ o, St w g L (V209 (some _) (some _) (some _) (some (.ref a)) o) [(a, isStrs (putO [] ([x, y].take i)))] h ∧ TreeAt h a1 (.sym x) ∧ TreeAt h a2 (.sym y), fun h8 k8 => ⟨none, S10.keeps k8, t1.mono (TupKeep.of_stays k8), t2.mono (TupKeep.of_stays k8)⟩, ?_, ?_, ?_⟩
        · rintro i h h' ⟨o, J, j1, j2⟩ hT k
          exact ⟨o, S10.off (X := [I]) (fun i hi => by rw [List.mem_singleton.mp hi]; exact hI) J (List.forall_mem_singleton.mpr ⟨_, .head _⟩) k, j1.mono (TupKeep.of_but hT k), j2.mono (TupKeep.of_but hT k)⟩
        · rintro i v h tk8 hi hP ⟨o, J, j1, j2⟩ hex
          have hv : ∃ z, [x, y][i]? = some z ∧ TreeAt h v (.sym z) := by
            have ii : i = 0 ∨ i = 1 := by omega
            rcases ii with rfl | rfl
            · cases hP; exact ⟨x, rfl, j1⟩
            · cases hP; exact ⟨y, rfl, j2⟩
          obtain ⟨z, hz, tv⟩ := hv
          refine so209_part J ?_
          intro h11 tk11 S11 k11
          have tk8 := TupKeep.of_low J k11
          repeat (first | tbr_iter "zst" | tbr_iter "zl209" | tbr_iter "zcb")
          refine u_pure S11 (sp_pn_sym (R'.le (by decide)) B (fun b o e => S11.F.keep b o (hg b o e)) (tv.mono tk8)) ?_
          rintro r h12 tk12 k12 S12 ⟨b, rfl, hb, x12⟩
          obtain ⟨us, m, hus, eb⟩ := x12.strs
          have ab : a ≠ b := fun q => by obtain ⟨o, e, _⟩ := (S11.N _ (.head _)).1; have hb' : h11.get? b = none := hb; rw [← q, show h11.get? a = some o from e] at hb'; cases hb'
          repeat (first | tbr_iter "zst")
          have zl : (putO [] ([x, y].take i)).length ≤ 2 := by
            have := putO_len (l := []) (ns := [x, y].take i)
            rw [List.length_take] at this; simp at this; omega
          refine ⟨S12.kin, r_use (sp_put_once (R'.le (by decide)) B (fun b o e => S12.F.keep b o (hg b o e)) (S12.N _ (.head _)).1 h0a (b := b) ⟨_, eb, rfl, _, rfl⟩ hus ab (by simp; omega)) ?_⟩
          rintro r h13 tk13 k13 x13
          have S13 := S12.one (P := isStrs (putO [] ([x, y].take (i + 1)))) ⟨_, .head _⟩ k13 (by rw [putO_take hz]; exact x13)
          have tk13 := TupKeep.of_but (noTup_strs (S12.N _ (.head _)).1) k13
          have tkA := tk8.trans ((TupKeep.of_stays k12).trans tk13)
          repeat (first | tbr_iter "zst")
          refine forK_next (fun c hc o e => k13 c o ?_ (k12 c o (k11 c o ?_ e))) ⟨_, S13, j1.mono tkA, j2.mono tkA⟩
          · rcases List.mem_cons.mp hc with rfl | hc
            · exact fun q => Ia (List.mem_singleton.mp q)
            · rw [List.mem_singleton.mp hc]; exact fun q => pa (List.mem_singleton.mp q)
          · rcases List.mem_cons.mp hc with rfl | hc
            · exact IL
            · rw [List.mem_singleton.mp hc]; exact pL
        · rintro h tk8 ⟨o, J, _⟩
          repeat (first | tbr_iter "zst" | tbr_iter "zl209")
          exact r_ret J kg ⟨a, rfl, an, (J.N _ (.head _)).1⟩
end

/-- one node of the walk: what it tells itself, what is walked next -/
inductive Sp : Str → List T → List Ev → List T → Prop
  | asg {op : Str} {P : Place} {v : T} : op ∈ opsA → P.ok → Sp op [P.t, v] [(.a, P.xs)] [P.t, v]
  | told {b : Bool} {x : Str} {t : T} : t = .sym x ∨ t = .node (S "=") [.sym x, .int] → x ∈ names → Sp (wrd b) [t] [(kd b, [x])] [t]
  | fn {x : Str} {b : T} : x ∈ names → Sp (S "function") [.node (S "call") [.sym x, .sym (S "z")], b] [(.a, [x])] []
  | forr {x : Str} {v b : T} : Sp (S "for") [.node (S "in") [.sym x, v], b] [] [v]
  | first {h : Str} {v r : T} : h ∈ firsts → Sp h [v, r] [] [v]
  | skip {h : Str} {ps : List T} : h ∈ skips → Sp h ps [] []
  | plain {h : Str} {ps : List T} : h ∈ plains → Sp h ps [] ps
  | kw {x : Str} {v : T} : Sp (S "kw") [.sym x, v] [] [.sym x, v]
theorem Wk.sp {n : Nat} {hd : Str} {ps : List T} {es : List Ev} (h : Wk n (.node hd ps) es) : ∃ e0 ts m fs, Sp hd ps e0 ts ∧ Wks m ts fs ∧ m < n ∧ es = e0 ++ fs := by
  cases h with
  | asg a b c => exact ⟨_, _, _, _, .asg a b, c, Nat.lt_succ_self _, rfl⟩
  | told a b c => exact ⟨_, _, _, _, .told a b, c, Nat.lt_succ_self _, rfl⟩
  | fn a => exact ⟨_, _, _, _, .fn a, .nil, Nat.lt_succ_self _, rfl⟩
  | forr a => exact ⟨_, _, _, _, .forr, .one a, Nat.lt_succ_self _, rfl⟩
  | first a b => exact ⟨_, _, _, _, .first a, .one b, Nat.lt_succ_self _, rfl⟩
  | skip a => exact ⟨_, _, _, _, .skip a, .nil, Nat.lt_succ_self _, rfl⟩
  | plain a b => exact ⟨_, _, _, _, .plain a, b, Nat.lt_succ_self _, rfl⟩
  | @kw x v n es a => exact ⟨_, _, 1 + n, es, .kw, .cons (es := []) .sym (.one a), by omega, rfl⟩
theorem mem_beq {x y : Str} (h : (x == y) = true) : x = y := eq_of_beq h
theorem any_mem {l : List Str} {x : Str} (h : (l.any (· == x)) = true) : x ∈ l := any_eq.mp h
section
variable {hd : Str} {ps ts : List T} {e0 : List Ev}
theorem Sp.l_fn (h : Sp hd ps e0 ts) (q : hd = S "function") : ts = [] ∧ ∃ x b, x ∈ names ∧ ps = [.node (S "call") [.sym x, .sym (S "z")], b] ∧ e0 = [(.a, [x])] := by
  cases h with
  | fn a => exact ⟨rfl, _, _, a, rfl, rfl⟩
  | asg a => subst q; exact absurd a (by decide)
  | @told b _ _ => cases b <;> exact absurd q (by decide)
  | forr => exact absurd q (by decide)
  | kw => exact absurd q (by decide)
  | first a => subst q; exact absurd a (by decide)
  | skip a => subst q; exact absurd a (by decide)
  | plain a => subst q; exact absurd a (by decide)
theorem Sp.l_first (h : Sp hd ps e0 ts) (q : hd ∈ firsts) : ∃ v r, ps = [v, r] ∧ ts = [v] ∧ e0 = [] := by
  cases h with
  | first a => exact ⟨_, _, rfl, rfl, rfl⟩
  | fn a => exact absurd q (by decide)
  | asg a => rcases List.mem_cons.mp a with rfl | a
             · exact absurd q (by decide)
             · rw [List.mem_singleton.mp a] at q; exact absurd q (by decide)
  | @told b _ _ => cases b <;> exact absurd q (by decide)
  | forr => exact absurd q (by decide)
  | kw => exact absurd q (by decide)
  | skip a => exact absurd q ((by decide : ∀ x ∈ skips, x ∉ firsts) _ a)
  | plain a => exact absurd q ((by decide : ∀ x ∈ plains, x ∉ firsts) _ a)
theorem Sp.l_for (h : Sp hd ps e0 ts) (q : hd = S "for") : ∃ x v b, ps = [.node (S "in") [.sym x, v], b] ∧ ts = [v] ∧ e0 = [] := by
  cases h with
  | forr => exact ⟨_, _, _, rfl, rfl, rfl⟩
  | fn a => exact absurd q (by decide)
  | asg a => subst q; exact absurd a (by decide)
  | @told b _ _ => cases b <;> exact absurd q (by decide)
  | kw => exact absurd q (by decide)
  | first a => subst q; exact absurd a (by decide)
  | skip a => subst q; exact absurd a (by decide)
  | plain a => subst q; exact absurd a (by decide)
theorem Sp.l_skip (h : Sp hd ps e0 ts) (q : hd ∈ skips) : ts = [] ∧ e0 = [] := by
  cases h with
  | skip a => exact ⟨rfl, rfl⟩
  | fn a => exact absurd q (by decide)
  | asg a => exact absurd q ((by decide : ∀ x ∈ opsA, x ∉ skips) _ a)
  | @told b _ _ => cases b <;> exact absurd q (by decide)
  | forr => exact absurd q (by decide)
  | kw => exact absurd q (by decide)
  | first a => exact absurd q ((by decide : ∀ x ∈ firsts, x ∉ skips) _ a)
  | plain a => exact absurd q ((by decide : ∀ x ∈ plains, x ∉ skips) _ a)
theorem Sp.l_rest (h : Sp hd ps e0 ts) (q1 : hd ∉ skips) (q2 : hd ∉ firsts) (q3 : hd ≠ S "for") (q4 : hd ≠ S "function") : ts = ps := by
  cases h with
  | asg a => rfl
  | told => rfl
  | kw => rfl
  | plain a => rfl
  | skip a => exact absurd a q1
  | first a => exact absurd a q2
  | forr => exact absurd rfl q3
  | fn => exact absurd rfl q4
theorem Sp.l_kw (h : Sp hd ps e0 ts) (q : hd = S "kw") : ∃ x v, ps = [.sym x, v] ∧ ts = [.sym x, v] ∧ e0 = [] := by
  cases h with
  | kw => exact ⟨_, _, rfl, rfl, rfl⟩
  | forr => exact absurd q (by decide)
  | fn a => exact absurd q (by decide)
  | asg a => subst q; exact absurd a (by decide)
  | @told b _ _ => cases b <;> exact absurd q (by decide)
  | first a => subst q; exact absurd a (by decide)
  | skip a => subst q; exact absurd a (by decide)
  | plain a => subst q; exact absurd a (by decide)
theorem Sp.l_asg (h : Sp hd ps e0 ts) (q : hd ∈ opsA) : ∃ (P : Place) (v : T), P.ok ∧ ps = [P.t, v] ∧ e0 = [(.a, P.xs)] := by
  cases h with
  | asg _ b => exact ⟨_, _, b, rfl, rfl⟩
  | fn a => exact absurd q (by decide)
  | @told b _ _ => cases b <;> exact absurd q (by decide)
  | forr => exact absurd q (by decide)
  | kw => exact absurd q (by decide)
  | first a => exact absurd a ((by decide : ∀ x ∈ opsA, x ∉ firsts) _ q)
  | skip a => exact absurd a ((by decide : ∀ x ∈ opsA, x ∉ skips) _ q)
  | plain a => exact absurd a ((by decide : ∀ x ∈ opsA, x ∉ plains) _ q)
theorem Sp.l_told {b : Bool} (h : Sp hd ps e0 ts) (q : hd = wrd b) : ∃ x t, (t = .sym x ∨ t = .node (S "=") [.sym x, .int]) ∧ x ∈ names ∧ ps = [t] ∧ e0 = [(kd b, [x])] := by
  cases h with
  | @told b' x t a c =>
    have : b' = b := by cases b' <;> cases b <;> first | rfl | exact absurd q (by decide)
    subst this
    exact ⟨_, _, a, c, rfl, rfl⟩
  | fn a => cases b <;> exact absurd q (by decide)
  | asg a => subst q; cases b <;> exact absurd a (by decide)
  | forr => cases b <;> exact absurd q (by decide)
  | kw => cases b <;> exact absurd q (by decide)
  | first a => subst q; cases b <;> exact absurd a (by decide)
  | skip a => subst q; cases b <;> exact absurd a (by decide)
  | plain a => subst q; cases b <;> exact absurd a (by decide)
theorem Sp.l_none (h : Sp hd ps e0 ts) (q1 : hd ∉ opsA) (q2 : ∀ b, hd ≠ wrd b) (q3 : hd ≠ S "function") : e0 = [] := by
  cases h with
  | asg a => exact absurd a q1
  | told => exact absurd rfl (q2 _)
  | fn => exact absurd rfl q3
  | _ => rfl
/-- all the words that a node of the law bears -/
noncomputable def wordsAll : List Str := opsA ++ [S "local", S "global", S "function", S "for", S "kw"] ++ firsts ++ skips ++ plains
theorem Sp.word (h : Sp hd ps e0 ts) : hd ∈ wordsAll := by
  cases h with
  | asg a => exact List.mem_append_left _ (List.mem_append_left _ (List.mem_append_left _ (List.mem_append_left _ a)))
  | @told b _ _ => cases b <;> decide
  | fn => decide
  | forr => decide
  | kw => decide
  | first a => exact List.mem_append_left _ (List.mem_append_left _ (List.mem_append_right _ a))
  | skip a => exact List.mem_append_left _ (List.mem_append_right _ a)
  | plain a => exact List.mem_append_right _ a
end

section
variable {w : World} {A : Around} {s : Shared} {h₀ : Heap}
theorem any_not {l : List Str} {x : Str} (h : ¬ (l.any (· == x)) = true) : x ∉ l := fun q => h (any_eq.mpr q)
theorem beq_not {x y : Str} (h : ¬ (x == y) = true) : x ≠ y := fun q => h (beq_iff_eq.mpr q)
theorem u_tup {g h : Heap} {L : Addr} {l : LM} {led : Led} {tk : Nat} {E : Value → Shared → Prop} {Q : Value → Shared → Prop} {M : Model} {vs : List Value} (SS : St w g L l led h) (hz : vs.length ≤ 1000)
    (q : ∀ a h' tk', IsTup h' a vs.toArray → h.StaysIn h' → St w g L l led h' → Q (.ref a) (up s h' tk')) : wpAny M A (newTuple vs) Q E (up s h tk) :=
  r_newTuple (fun h' a k _ e => q a h' tk ⟨_, e, rfl, _, rfl⟩ k (SS.keeps k)) (by simp only [sizeLine]; omega)
theorem nil_of {h : Heap} {ts : List T} (e : ts = []) : TreesAt h [] ts := by rw [e]; exact .nil
theorem sp_own {v : Value} {hd : Str} {ps ts : List T} {e0 : List Ev} (R : Room 1 A) (B : Bs w h₀) (k₀ : h₀.StaysIn s.heap) (ht : TreeAt s.heap v (.node hd ps)) (hs : Sp hd ps e0 ts) (hi : hd ∉ [S "->", S "let", S "comprehension"]) :
    wpAny (model PW w) A (call (.ref 178) [v]) (Ret s [] fun r h' => ∃ c vs, r = .ref c ∧ IsTup h' c vs.toArray ∧ TreesAt h' vs ts) NoE s := by
  refine en178 R B k₀ [] (fun p hp => nomatch hp) ?_
  intro g L h₁ tk SS hg kg kg' k₁ R'
  have ht' := ht.kg kg noTup_nil
  cases ht' with
  | @node _ p _ _ _ vs _ h1 h2 h3 =>
  refine x_two R'.1 ?_ (by rfl) (by rfl)
  repeat (first | tbr_iter "zst" | (with_reducible first|refine lo178_tree ‹_› ?_|refine lo178_head ‹_› ?_|refine lo178_parts ‹_› ?_) | tbr_iter "zit")
  refine r_newTuple ?_ (by exact Nat.le_of_ble_eq_true rfl)
  intro h4 t4 k4 et4 e4
  refine ⟨h4, _, t4, _, _, rfl, rfl, ⟨_, e4, rfl, _, rfl⟩, fun h5 tk5 k5 => ?_⟩
  have S5 := (SS.keeps k4).keeps k5
  refine so178_parts S5 ?_
  intro h6 tk6 S6 k6
  refine so178_head S6 ?_
  intro h7 tk7 S7 k7
  have hp7 := h2.keeps S7.F.keep
  have hts7 := h3.mono (TupKeep.of_stays S7.F.keep)
  repeat (first | tbr_iter "zst" | (with_reducible first|refine lo178_tree ‹_› ?_|refine lo178_head ‹_› ?_|refine lo178_parts ‹_› ?_))
  refine u_tup S7 (by simp) ?_
  intro a8 h8 tk8 ht8 k8 S8
  refine c_int ht8 (by repeat (first | exact StrsAre.nil | apply StrsAre.cons)) ?_
  repeat (first | tbr_iter "zst" | (with_reducible first|refine lo178_tree ‹_› ?_|refine lo178_head ‹_› ?_|refine lo178_parts ‹_› ?_))
  have done : ∀ {l : LM} {h9 : Heap} {tk9 : Nat} {c : Addr} {us : List Value}, St w g L l [] h9 → IsTup h9 c us.toArray → TreesAt h9 us ts → Ret s [] (fun r h' => ∃ c vs, r = .ref c ∧ IsTup h' c vs.toArray ∧ TreesAt h' vs ts) (.ref c) (up s h9 tk9) := fun S9 e x =>
    r_ret S9 kg ⟨_, _, rfl, e, x⟩
  by_cases q1 : ([S "function", S "generated", S "struct", S "abstract"].any (· == hd)) = true
  · refine ite_pos q1 ?_
    repeat (first | tbr_iter "zst" | (with_reducible first|refine lo178_tree ‹_› ?_|refine lo178_head ‹_› ?_|refine lo178_parts ‹_› ?_))
    refine r_newTuple ?_ (by exact Nat.le_of_ble_eq_true rfl)
    intro h9 a k9 _ e9
    refine done (us := []) (S8.keeps k9) ⟨_, e9, rfl, _, rfl⟩ (nil_of ?_)
    have m := any_mem q1
    have w := hs.word
    refine (hs.l_fn ?_).1
    rcases List.mem_cons.mp m with rfl | m
    · rfl
    · exact absurd w ((by decide : ∀ x ∈ [S "generated", S "struct", S "abstract"], x ∉ wordsAll) _ m)
  refine ite_neg q1 ?_
  repeat (first | tbr_iter "zst" | (with_reducible first|refine lo178_tree ‹_› ?_|refine lo178_head ‹_› ?_|refine lo178_parts ‹_› ?_))
  have two : hd ∈ firsts → ∃ vv rr tv tr, vs = [vv, rr] ∧ ts = [tv] ∧ TreeAt g vv tv := fun m => by
    obtain ⟨tv, tr, rfl, rfl, _⟩ := hs.l_first m
    cases h3 with
    | cons a b => cases b with
      | cons c d => cases d; exact ⟨_, _, tv, tr, rfl, rfl, a⟩
  by_cases q2 : (hd == S "do") = true
  · refine ite_pos q2 ?_
    obtain ⟨vv, rr, tv, tr, rfl, rfl, htv⟩ := two (by rw [eq_of_beq q2]; decide)
    repeat (first | tbr_iter "zst" | (with_reducible first|refine lo178_tree ‹_› ?_|refine lo178_head ‹_› ?_|refine lo178_parts ‹_› ?_))
    refine ⟨h8, _, p, _, rfl, rfl, h2.keeps S8.F.keep, by simp, by simp, fun c h9 tk9 hc k9 => ?_⟩
    exact done (S8.keeps k9) hc (.cons (htv.mono (TupKeep.of_stays (S8.keeps k9).F.keep)) .nil)
  refine ite_neg q2 ?_
  repeat (first | tbr_iter "zst" | (with_reducible first|refine lo178_tree ‹_› ?_|refine lo178_head ‹_› ?_|refine lo178_parts ‹_› ?_))
  by_cases q3 : (hd == S "while") = true
  · refine ite_pos q3 ?_
    obtain ⟨vv, rr, tv, tr, rfl, rfl, htv⟩ := two (by rw [eq_of_beq q3]; decide)
    repeat (first | tbr_iter "zst" | (with_reducible first|refine lo178_tree ‹_› ?_|refine lo178_head ‹_› ?_|refine lo178_parts ‹_› ?_))
    refine ⟨h8, _, p, _, rfl, rfl, h2.keeps S8.F.keep, by simp, by simp, fun c h9 tk9 hc k9 => ?_⟩
    exact done (S8.keeps k9) hc (.cons (htv.mono (TupKeep.of_stays (S8.keeps k9).F.keep)) .nil)
  refine ite_neg q3 ?_
  repeat (first | tbr_iter "zst" | (with_reducible first|refine lo178_tree ‹_› ?_|refine lo178_head ‹_› ?_|refine lo178_parts ‹_› ?_))
  by_cases q4 : (hd == S "for") = true
  · refine ite_pos q4 ?_
    obtain ⟨x, tv, tb, rfl, rfl, _⟩ := hs.l_for (eq_of_beq q4)
    cases h3 with
    | cons a b => cases b with
      | cons c d =>
        cases d
        cases a with
        | @node _ p2 _ _ _ _ _ i1 i2 i3 => cases i3 with
          | cons e f => cases f with
            | cons e2 f2 =>
              cases f2
              have j0 := h2.keeps S8.F.keep
              have j1 := i1.keeps S8.F.keep
              have j2 := i2.keeps S8.F.keep
              repeat (first | tbr_iter "zst" | (with_reducible first|refine lo178_tree ‹_› ?_|refine lo178_head ‹_› ?_|refine lo178_parts ‹_› ?_) | tbr_iter "zit")
              refine ⟨h8, _, p2, _, rfl, rfl, j2, by simp, by simp, fun c h9 tk9 hc k9 => ?_⟩
              exact done (S8.keeps k9) hc (.cons (e2.mono (TupKeep.of_stays (S8.keeps k9).F.keep)) .nil)
  refine ite_neg q4 ?_
  repeat (first | tbr_iter "zst" | (with_reducible first|refine lo178_tree ‹_› ?_|refine lo178_head ‹_› ?_|refine lo178_parts ‹_› ?_))
  by_cases q5 : (hd == S "try") = true
  · refine ite_pos q5 ?_
    repeat (first | tbr_iter "zst" | (with_reducible first|refine lo178_tree ‹_› ?_|refine lo178_head ‹_› ?_|refine lo178_parts ‹_› ?_))
    refine r_newTuple ?_ (by exact Nat.le_of_ble_eq_true rfl)
    intro h9 a k9 _ e9
    refine done (us := []) (S8.keeps k9) ⟨_, e9, rfl, _, rfl⟩ (nil_of (hs.l_skip ?_).1)
    rw [eq_of_beq q5]; decide
  refine ite_neg q5 ?_
  repeat (first | tbr_iter "zst" | (with_reducible first|refine lo178_tree ‹_› ?_|refine lo178_head ‹_› ?_|refine lo178_parts ‹_› ?_))
  refine done S8 (h2.keeps S8.F.keep) ?_
  rw [hs.l_rest ?_ ?_ (beq_not q4) ?_]
  · exact h3.mono (TupKeep.of_stays S8.F.keep)
  · intro m
    rcases List.mem_cons.mp m with e | m
    · exact hi (by rw [e]; decide)
    · rcases List.mem_cons.mp m with e | m
      · exact hi (by rw [e]; decide)
      · rcases List.mem_cons.mp m with e | m
        · exact hi (by rw [e]; decide)
        · exact beq_not q5 (List.mem_singleton.mp m)
  · intro m
    rcases List.mem_cons.mp m with e | m
    · exact beq_not q3 e
    · exact beq_not q2 (List.mem_singleton.mp m)
  · exact fun e => any_not q1 (by rw [e]; decide)
end

section
variable {w : World} {A : Around} {s : Shared} {h₀ : Heap}
theorem tup_glob {P : Params} {h : Heap} {a : Addr} {vs : List Value} {n : Nat} (k : (KK P).In h) (e : (KK P).lookup a = some (tupO vs n)) : IsTup h a vs.toArray := ⟨_, k _ _ e, rfl, _, rfl⟩
theorem g194 (P : Params) : ∃ vs n, (KK P).lookup 194 = some (tupO vs n) ∧ StrsAre vs [S "function", S "->", S "do", S "generated"] := ⟨[sV "function" 448, sV "->" 449, sV "do" 450, sV "generated" 451], 0, by kernel_rfl, by repeat (first | exact StrsAre.nil | apply StrsAre.cons)⟩
theorem g195 (P : Params) : ∃ vs n, (KK P).lookup 195 = some (tupO vs n) ∧ StrsAre vs [S "quote", S "macro", S "struct", S "abstract", S "escape"] := ⟨[sV "quote" 453, sV "macro" 454, sV "struct" 455, sV "abstract" 456, sV "escape" 457], 0, by kernel_rfl, by repeat (first | exact StrsAre.nil | apply StrsAre.cons)⟩
theorem g193 (P : Params) : ∃ vs n, (KK P).lookup 193 = some (tupO vs n) ∧ StrsAre vs [S "=", S "+=", S "-=", S "*=", S "//=", S "%=", S "|=", S "&="] := ⟨[sV "=" 439, sV "+=" 440, sV "-=" 441, sV "*=" 442, sV "//=" 443, sV "%=" 444, sV "|=" 445, sV "&=" 446], 0, by kernel_rfl, by repeat (first | exact StrsAre.nil | apply StrsAre.cons)⟩
theorem g50 (P : Params) : ∃ vs n, (KK P).lookup 50 = some (tupO vs n) ∧ StrsAre vs [S "=", S "+=", S "-=", S "*=", S "//=", S "%=", S "|=", S "&="] := ⟨[sV "=" 227, sV "+=" 228, sV "-=" 229, sV "*=" 230, sV "//=" 231, sV "%=" 232, sV "|=" 233, sV "&=" 234], 0, by kernel_rfl, by repeat (first | exact StrsAre.nil | apply StrsAre.cons)⟩
theorem g51 (P : Params) : ∃ vs n, (KK P).lookup 51 = some (tupO vs n) ∧ StrsAre vs [S "->", S "let", S "comprehension", S "generator", S "quote", S "macro"] := ⟨[sV "->" 236, sV "let" 237, sV "comprehension" 238, sV "generator" 239, sV "quote" 240, sV "macro" 241], 0, by kernel_rfl, by repeat (first | exact StrsAre.nil | apply StrsAre.cons)⟩
/-- what is walked next may leave out a bare name -/
noncomputable def Nx2 (ts ts2 : List T) : Prop := ∀ m fs, Wks m ts fs → ∃ m2, m2 ≤ m ∧ Wks m2 ts2 fs
theorem Nx2.rfl {ts : List T} : Nx2 ts ts := fun m _ h => ⟨m, Nat.le_refl _, h⟩
theorem Nx2.kw {x : Str} {v : T} : Nx2 [.sym x, v] [v] := fun m fs h => by
  cases h with
  | cons a b => cases a; exact ⟨_, by omega, b⟩
theorem sp_pis {v : Value} {hd : Str} {ps ts : List T} {e0 : List Ev} (R : Room 1 A) (B : Bs w h₀) (k₀ : h₀.StaysIn s.heap) (ht : TreeAt s.heap v (.node hd ps)) (hs : Sp hd ps e0 ts) :
    wpAny (model PW w) A (call (.ref 230) [v]) (Ret s [] fun r h' => ∃ c vs ts2, r = .ref c ∧ IsTup h' c vs.toArray ∧ TreesAt h' vs ts2 ∧ Nx2 ts ts2) NoE s := by
  refine en230 R B k₀ [] (fun p hp => nomatch hp) ?_
  intro g L h₁ tk SS hg kg kg' k₁ R'
  have ht' := ht.kg kg noTup_nil
  cases ht' with
  | @node _ p _ _ _ vs _ h1 h2 h3 =>
  refine x_two R'.1 ?_ (by rfl) (by rfl)
  repeat (first | tbr_iter "zst" | (with_reducible first|refine lo230_tree ‹_› ?_|refine lo230_head ‹_› ?_|refine lo230_parts ‹_› ?_|refine lo230_FUNCTIONS ‹_› ?_|refine lo230_SILENT ‹_› ?_) | tbr_iter "zit")
  refine r_newTuple ?_ (by exact Nat.le_of_ble_eq_true rfl)
  intro h4 t4 k4 et4 e4
  refine ⟨h4, _, t4, _, _, rfl, rfl, ⟨_, e4, rfl, _, rfl⟩, fun h5 tk5 k5 => ?_⟩
  have S5 := (SS.keeps k4).keeps k5
  refine so230_parts S5 ?_
  intro h6 tk6 S6 k6
  refine so230_head S6 ?_
  intro h7 tk7 S7 k7
  have done : ∀ {l : LM} {h9 : Heap} {tk9 : Nat} {c : Addr} {us : List Value}, St w g L l [] h9 → IsTup h9 c us.toArray → TreesAt h9 us ts → Ret s [] (fun r h' => ∃ c vs ts2, r = .ref c ∧ IsTup h' c vs.toArray ∧ TreesAt h' vs ts2 ∧ Nx2 ts ts2) (.ref c) (up s h9 tk9) := fun S9 e x =>
    r_ret S9 kg ⟨_, _, _, rfl, e, x, .rfl⟩
  have two : hd ∈ firsts → ∃ vv rr tv tr, vs = [vv, rr] ∧ ts = [tv] ∧ TreeAt g vv tv := fun m => by
    obtain ⟨tv, tr, rfl, rfl, _⟩ := hs.l_first m
    cases h3 with
    | cons a b => cases b with
      | cons c d => cases d; exact ⟨_, _, tv, tr, rfl, rfl, a⟩
  refine x_if ?_
  refine r_mid (s := s) (fun b h => b = ([S "function", S "->", S "do", S "generated"].any (· == hd) || ([S "quote", S "macro", S "struct", S "abstract", S "escape"].any (· == hd) || [S "let", S "comprehension", S "generator", S "try"].any (· == hd))) ∧ ∃ vt th, St w g L (V178 (some vt) (some (.str hd th)) (some (.ref p))) [] h) ?_ ?_
  · repeat (first | tbr_iter "zst" | (with_reducible first|refine lo230_tree ‹_› ?_|refine lo230_head ‹_› ?_|refine lo230_parts ‹_› ?_|refine lo230_FUNCTIONS ‹_› ?_|refine lo230_SILENT ‹_› ?_))
    obtain ⟨us1, n1, f1, g1⟩ := g194 w.params
    refine c_int (tup_glob S7.kin f1) g1 ?_
    repeat (first | tbr_iter "zst" | (with_reducible first|refine lo230_tree ‹_› ?_|refine lo230_head ‹_› ?_|refine lo230_parts ‹_› ?_|refine lo230_FUNCTIONS ‹_› ?_|refine lo230_SILENT ‹_› ?_))
    by_cases c1 : ([S "function", S "->", S "do", S "generated"].any (· == hd)) = true
    · refine ite_pos c1 ?_
      exact ⟨_, _, rfl, by rw [c1]; rfl, _, _, S7⟩
    refine ite_neg c1 ?_
    repeat (first | tbr_iter "zst" | (with_reducible first|refine lo230_tree ‹_› ?_|refine lo230_head ‹_› ?_|refine lo230_parts ‹_› ?_|refine lo230_FUNCTIONS ‹_› ?_|refine lo230_SILENT ‹_› ?_))
    obtain ⟨us2, n2, f2, g2⟩ := g195 w.params
    refine c_int (tup_glob S7.kin f2) g2 ?_
    repeat (first | tbr_iter "zst" | (with_reducible first|refine lo230_tree ‹_› ?_|refine lo230_head ‹_› ?_|refine lo230_parts ‹_› ?_|refine lo230_FUNCTIONS ‹_› ?_|refine lo230_SILENT ‹_› ?_))
    by_cases c2 : ([S "quote", S "macro", S "struct", S "abstract", S "escape"].any (· == hd)) = true
    · refine ite_pos c2 ?_
      exact ⟨_, _, rfl, by rw [c2, Bool.true_or, Bool.or_true], _, _, S7⟩
    refine ite_neg c2 ?_
    repeat (first | tbr_iter "zst" | (with_reducible first|refine lo230_tree ‹_› ?_|refine lo230_head ‹_› ?_|refine lo230_parts ‹_› ?_|refine lo230_FUNCTIONS ‹_› ?_|refine lo230_SILENT ‹_› ?_))
    refine u_tup S7 (by simp) ?_
    intro a8 h8 tk8 ht8 k8 S8
    refine c_int ht8 (by repeat (first | exact StrsAre.nil | apply StrsAre.cons)) ?_
    repeat (first | tbr_iter "zst" | (with_reducible first|refine lo230_tree ‹_› ?_|refine lo230_head ‹_› ?_|refine lo230_parts ‹_› ?_|refine lo230_FUNCTIONS ‹_› ?_|refine lo230_SILENT ‹_› ?_))
    have cc : ∀ x : Bool, x = ([S "function", S "->", S "do", S "generated"].any (· == hd) || ([S "quote", S "macro", S "struct", S "abstract", S "escape"].any (· == hd) || x)) := fun x => by
      rw [Bool.eq_false_iff.mpr c1, Bool.eq_false_iff.mpr c2, Bool.false_or, Bool.false_or]
    by_cases c3 : ([S "let", S "comprehension", S "generator", S "try"].any (· == hd)) = true
    · refine ite_pos c3 ?_
      exact ⟨_, _, rfl, by rw [c3, Bool.or_true, Bool.or_true], _, _, S8⟩
    refine ite_neg c3 ?_
    repeat (first | tbr_iter "zst" | (with_reducible first|refine lo230_tree ‹_› ?_|refine lo230_head ‹_› ?_|refine lo230_parts ‹_› ?_|refine lo230_FUNCTIONS ‹_› ?_|refine lo230_SILENT ‹_› ?_))
    exact ⟨_, _, rfl, by rw [Bool.eq_false_iff.mpr c1, Bool.eq_false_iff.mpr c2, Bool.eq_false_iff.mpr c3]; rfl, _, _, S8⟩
  rintro b h8 tk8 ⟨hb, vt, th, S8⟩
  have wd := hs.word
  by_cases q1 : b = true
  · refine ite_pos q1 ?_
    rw [q1] at hb
    repeat (first | tbr_iter "zst" | (with_reducible first|refine lo230_tree ‹_› ?_|refine lo230_head ‹_› ?_|refine lo230_parts ‹_› ?_|refine lo230_FUNCTIONS ‹_› ?_|refine lo230_SILENT ‹_› ?_))
    by_cases q2 : (hd == S "do") = true
    · refine ite_pos q2 ?_
      obtain ⟨vv, rr, tv, tr, rfl, rfl, htv⟩ := two (by rw [eq_of_beq q2]; decide)
      repeat (first | tbr_iter "zst" | (with_reducible first|refine lo230_tree ‹_› ?_|refine lo230_head ‹_› ?_|refine lo230_parts ‹_› ?_|refine lo230_FUNCTIONS ‹_› ?_|refine lo230_SILENT ‹_› ?_))
      refine ⟨h8, _, p, _, rfl, rfl, h2.keeps S8.F.keep, by simp, by simp, fun c h9 tk9 hc k9 => ?_⟩
      exact done (S8.keeps k9) hc (.cons (htv.mono (TupKeep.of_stays (S8.keeps k9).F.keep)) .nil)
    · refine ite_neg q2 ?_
      repeat (first | tbr_iter "zst" | (with_reducible first|refine lo230_tree ‹_› ?_|refine lo230_head ‹_› ?_|refine lo230_parts ‹_› ?_|refine lo230_FUNCTIONS ‹_› ?_|refine lo230_SILENT ‹_› ?_))
      refine r_newTuple ?_ (by exact Nat.le_of_ble_eq_true rfl)
      intro h9 a k9 _ e9
      refine done (us := []) (S8.keeps k9) ⟨_, e9, rfl, _, rfl⟩ (nil_of ?_)
      have key : hd = S "function" ∨ hd ∈ skips := by
        have all : ∀ x ∈ wordsAll, (true = ([S "function", S "->", S "do", S "generated"].any (· == x) || ([S "quote", S "macro", S "struct", S "abstract", S "escape"].any (· == x) || [S "let", S "comprehension", S "generator", S "try"].any (· == x)))) → ¬ (x == S "do") = true → x = S "function" ∨ x ∈ skips := by decide
        exact all hd wd hb q2
      rcases key with e | e
      · exact (hs.l_fn e).1
      · exact (hs.l_skip e).1
  refine ite_neg q1 ?_
  rw [Bool.eq_false_iff.mpr q1] at hb
  repeat (first | tbr_iter "zst" | (with_reducible first|refine lo230_tree ‹_› ?_|refine lo230_head ‹_› ?_|refine lo230_parts ‹_› ?_|refine lo230_FUNCTIONS ‹_› ?_|refine lo230_SILENT ‹_› ?_))
  by_cases q3 : (hd == S "while") = true
  · refine ite_pos q3 ?_
    obtain ⟨vv, rr, tv, tr, rfl, rfl, htv⟩ := two (by rw [eq_of_beq q3]; decide)
    repeat (first | tbr_iter "zst" | (with_reducible first|refine lo230_tree ‹_› ?_|refine lo230_head ‹_› ?_|refine lo230_parts ‹_› ?_|refine lo230_FUNCTIONS ‹_› ?_|refine lo230_SILENT ‹_› ?_))
    refine ⟨h8, _, p, _, rfl, rfl, h2.keeps S8.F.keep, by simp, by simp, fun c h9 tk9 hc k9 => ?_⟩
    exact done (S8.keeps k9) hc (.cons (htv.mono (TupKeep.of_stays (S8.keeps k9).F.keep)) .nil)
  refine ite_neg q3 ?_
  repeat (first | tbr_iter "zst" | (with_reducible first|refine lo230_tree ‹_› ?_|refine lo230_head ‹_› ?_|refine lo230_parts ‹_› ?_|refine lo230_FUNCTIONS ‹_› ?_|refine lo230_SILENT ‹_› ?_))
  by_cases q4 : (hd == S "for") = true
  · refine ite_pos q4 ?_
    obtain ⟨x, tv, tb, rfl, rfl, _⟩ := hs.l_for (eq_of_beq q4)
    cases h3 with
    | cons a b => cases b with
      | cons c d =>
        cases d
        cases a with
        | @node _ p2 _ _ _ _ _ i1 i2 i3 => cases i3 with
          | cons e f => cases f with
            | cons e2 f2 =>
              cases f2
              have j0 := h2.keeps S8.F.keep
              have j1 := i1.keeps S8.F.keep
              have j2 := i2.keeps S8.F.keep
              repeat (first | tbr_iter "zst" | (with_reducible first|refine lo230_tree ‹_› ?_|refine lo230_head ‹_› ?_|refine lo230_parts ‹_› ?_|refine lo230_FUNCTIONS ‹_› ?_|refine lo230_SILENT ‹_› ?_) | tbr_iter "zit")
              refine ⟨h8, _, p2, _, rfl, rfl, j2, by simp, by simp, fun c h9 tk9 hc k9 => ?_⟩
              exact done (S8.keeps k9) hc (.cons (e2.mono (TupKeep.of_stays (S8.keeps k9).F.keep)) .nil)
  refine ite_neg q4 ?_
  repeat (first | tbr_iter "zst" | (with_reducible first|refine lo230_tree ‹_› ?_|refine lo230_head ‹_› ?_|refine lo230_parts ‹_› ?_|refine lo230_FUNCTIONS ‹_› ?_|refine lo230_SILENT ‹_› ?_))
  by_cases q5 : (hd == S "kw") = true
  · refine ite_pos q5 ?_
    obtain ⟨x, tv, rfl, rfl, _⟩ := hs.l_kw (eq_of_beq q5)
    cases h3 with
    | cons a b => cases b with
      | cons c d =>
        cases d
        repeat (first | tbr_iter "zst" | (with_reducible first|refine lo230_tree ‹_› ?_|refine lo230_head ‹_› ?_|refine lo230_parts ‹_› ?_|refine lo230_FUNCTIONS ‹_› ?_|refine lo230_SILENT ‹_› ?_))
        refine ⟨h8, _, p, _, rfl, rfl, h2.keeps S8.F.keep, by simp, by simp, fun e h9 tk9 hc k9 => ?_⟩
        exact r_ret (S8.keeps k9) kg ⟨_, _, _, rfl, hc, .cons (c.mono (TupKeep.of_stays (S8.keeps k9).F.keep)) .nil, .kw⟩
  refine ite_neg q5 ?_
  repeat (first | tbr_iter "zst" | (with_reducible first|refine lo230_tree ‹_› ?_|refine lo230_head ‹_› ?_|refine lo230_parts ‹_› ?_|refine lo230_FUNCTIONS ‹_› ?_|refine lo230_SILENT ‹_› ?_))
  refine done S8 (h2.keeps S8.F.keep) ?_
  have all : ∀ x ∈ wordsAll, (false = ([S "function", S "->", S "do", S "generated"].any (· == x) || ([S "quote", S "macro", S "struct", S "abstract", S "escape"].any (· == x) || [S "let", S "comprehension", S "generator", S "try"].any (· == x)))) → ¬ (x == S "while") = true → x ∉ skips ∧ x ∉ firsts ∧ x ≠ S "function" := by decide
  obtain ⟨r1, r2, r3⟩ := all hd wd hb q3
  rw [hs.l_rest r1 r2 (beq_not q4) r3]
  exact h3.mono (TupKeep.of_stays S8.F.keep)
end

section
variable {w : World} {A : Around} {s : Shared} {h₀ g h h' : Heap} {L a0 a1 a2 : Addr} {l : LM}
theorem x_join {A : Around} {env : Env} {s₁ : Shared} {st : Stmt} {rest : List Stmt} {Q : Flow → Shared → Prop} (Mid : Heap → Prop) (h1 : wpAny (model PW w) A (exec st env) (fun f s' => f = .next ∧ ∃ h tk, s' = up s h tk ∧ Mid h) NoE s₁)
    (h2 : ∀ h tk, Mid h → wpAny (model PW w) A (execs rest env) Q NoE (up s h tk)) : wpAny (model PW w) A (execs (st :: rest) env) Q NoE s₁ := by
  refine x_cons (wpAny_mono h1 (fun f s' q => ?_) fun _ _ x => x)
  obtain ⟨rfl, h, tk, rfl, m⟩ := q
  exact seqK_next (h2 h tk m)
noncomputable def L3 (a0 a1 a2 : Addr) (ls : Ls) : Led := [(a0, isStrs ls.1), (a1, isStrs ls.2.1), (a2, isStrs ls.2.2)]
structure Ne3 (a0 a1 a2 : Addr) : Prop where
  n01 : a0 ≠ a1
  n02 : a0 ≠ a2
  n12 : a1 ≠ a2
theorem St.n0 {ls : Ls} {l' : List Str} (N : Ne3 a0 a1 a2) (SS : St w g L l (L3 a0 a1 a2 ls) h) (k : ∀ b o, b ∉ [a0] → h.get? b = some o → h'.get? b = some o) (x : Has h' (a0, isStrs l')) : St w g L l (L3 a0 a1 a2 (l', ls.2)) h' :=
  St.upd (pre := []) (post := [(a1, isStrs ls.2.1), (a2, isStrs ls.2.2)]) SS (by simp; exact ⟨N.n01.symm, N.n02.symm⟩) k x
theorem St.n1 {ls : Ls} {l' : List Str} (N : Ne3 a0 a1 a2) (SS : St w g L l (L3 a0 a1 a2 ls) h) (k : ∀ b o, b ∉ [a1] → h.get? b = some o → h'.get? b = some o) (x : Has h' (a1, isStrs l')) : St w g L l (L3 a0 a1 a2 (ls.1, l', ls.2.2)) h' :=
  St.upd (pre := [(a0, isStrs ls.1)]) (post := [(a2, isStrs ls.2.2)]) SS (by simp; exact ⟨N.n01, N.n12.symm⟩) k x
theorem St.n2 {ls : Ls} {l' : List Str} (N : Ne3 a0 a1 a2) (SS : St w g L l (L3 a0 a1 a2 ls) h) (k : ∀ b o, b ∉ [a2] → h.get? b = some o → h'.get? b = some o) (x : Has h' (a2, isStrs l')) : St w g L l (L3 a0 a1 a2 (ls.1, ls.2.1, l')) h' :=
  St.upd (pre := [(a0, isStrs ls.1), (a1, isStrs ls.2.1)]) (post := []) SS (by simp; exact ⟨N.n02, N.n12⟩) k x
theorem noTup_L3 {ls : Ls} (H : ∀ p ∈ L3 a0 a1 a2 ls, Has h p) : NoTup h [a0, a1, a2] := by
  intro b hb
  rcases List.mem_cons.mp hb with rfl | hb
  · exact noTup_strs (H _ (.head _)) _ (.head _)
  · rcases List.mem_cons.mp hb with rfl | hb
    · exact noTup_strs (H _ (.tail _ (.head _))) _ (.head _)
    · rw [List.mem_singleton.mp hb]; exact noTup_strs (H _ (.tail _ (.tail _ (.head _)))) _ (.head _)
/-- putting names once into the list of a kind, by a def that does it -/
theorem u_put {A : Around} {E : Value → Shared → Prop} {Q : Value → Shared → Prop} {tk : Nat} {t : Sem Value} {ls : Ls} {ns : List Str} {k : Kd} {a : Addr} (N : Ne3 a0 a1 a2) (SS : St w g L l (L3 a0 a1 a2 ls) h) (ha : a = (match k with | .a => a0 | .l => a1 | .g => a2))
    (sp : wpAny (model PW w) A t (Ret (up s h tk) [a] fun _ h' => Has h' (a, isStrs (putO (match k with | .a => ls.1 | .l => ls.2.1 | .g => ls.2.2) ns))) NoE (up s h tk))
    (q : ∀ r h' tk', St w g L l (L3 a0 a1 a2 (evt ls (k, ns))) h' → Q r (up s h' tk')) : (KK w.params).In (up s h tk).heap ∧ wpAny (model PW w) A t Q E (up s h tk) := by
  refine ⟨SS.kin, r_use sp fun r h' tk' kk x => ?_⟩
  subst ha
  cases k with
  | a => exact q r h' tk' (SS.n0 N kk x)
  | l => exact q r h' tk' (SS.n1 N kk x)
  | g => exact q r h' tk' (SS.n2 N kk x)
theorem L3_has {ls : Ls} (k : Kd) (H : ∀ p ∈ L3 a0 a1 a2 ls, Has h p) : Has h ((match k with | .a => a0 | .l => a1 | .g => a2), isStrs (match k with | .a => ls.1 | .l => ls.2.1 | .g => ls.2.2)) := by
  cases k with
  | a => exact H _ (.head _)
  | l => exact H _ (.tail _ (.head _))
  | g => exact H _ (.tail _ (.tail _ (.head _)))
theorem L3_none {ls : Ls} (k : Kd) (H : ∀ p ∈ L3 a0 a1 a2 ls, h.get? p.1 = none) : h.get? (match k with | .a => a0 | .l => a1 | .g => a2) = none := by
  cases k with
  | a => exact H _ (.head _)
  | l => exact H _ (.tail _ (.head _))
  | g => exact H _ (.tail _ (.tail _ (.head _)))
theorem Gds.lenK {ls : Ls} (k : Kd) (G : Gds ls) : (match k with | .a => ls.1 | .l => ls.2.1 | .g => ls.2.2).length ≤ 5 := by
  cases k with
  | a => exact G.1.len
  | l => exact G.2.1.len
  | g => exact G.2.2.len
end

section
variable {w : World}
theorem x_ret0 {A : Around} {E : Value → Shared → Prop} {s : Shared} {env : Env} {rest : List Stmt} {pos : Pos} {Q : Flow → Shared → Prop} (h : Q (.ret .none) s) : wpAny (model PW w) A (execs (.Return none pos :: rest) env) Q E s := wpAny_execs_cons (wpAny_Return_none h)
noncomputable def WalkAt (w : World) (n : Nat) : Prop := ∀ {A : Around} {s : Shared} {h₀ : Heap} {v : Value} {t : T} {es : List Ev} {f a0 a1 a2 : Addr} {ls : Ls}, Room (n + 4) A → Bs w h₀ → h₀.StaysIn s.heap → TreeAt s.heap v t → Wk n t es →
  IsTup s.heap f [.ref a0, .ref a1, .ref a2].toArray → (∀ p ∈ L3 a0 a1 a2 ls, Has s.heap p ∧ h₀.get? p.1 = none) → Ne3 a0 a1 a2 → Gds ls → n ≤ 600 →
  wpAny (model PW w) A (call (.ref 324) [v, .ref f]) (Ret s [a0, a1, a2] fun _ h' => ∀ p ∈ L3 a0 a1 a2 (run es ls), Has h' p) NoE s
theorem TreesAt.at_ {h : Heap} {vs : List Value} {ts : List T} (x : TreesAt h vs ts) : ∀ {i : Nat} {v : Value}, vs[i]? = some v → ∃ t, ts[i]? = some t ∧ TreeAt h v t :=
  TreesAt.rec (motive_1 := fun _ _ _ => True) (motive_2 := fun vs ts _ => ∀ {i : Nat} {v : Value}, vs[i]? = some v → ∃ t, ts[i]? = some t ∧ TreeAt h v t) (fun _ => trivial) (fun _ => trivial) (fun _ _ _ _ => trivial)
    (fun e => nomatch e) (fun a _ _ ih => @fun i _ e => match i, e with | 0, e => ⟨_, rfl, Option.some.inj e ▸ a⟩ | _ + 1, e => ih e) x
theorem walk_step {n : Nat} (ih : ∀ m < n, WalkAt w m) : WalkAt w n := by
  intro A s h₀ v t es f a0 a1 a2 ls R B k₀ ht hw hf hL N G hn
  obtain ⟨at_, rfl⟩ := ht.isRef
  refine en324 R B k₀ (L3 a0 a1 a2 ls) hL ?_
  intro g L h₁ tk SS hg kg kg' k₁ R'
  have ht' := ht.kg kg (noTup_L3 fun p hp => (hL p hp).1)
  have hf' : IsTup g f [.ref a0, .ref a1, .ref a2].toArray := (TupKeep.of_but (noTup_L3 fun p hp => (hL p hp).1) kg).tup hf
  have done : ∀ {l : LM} {h9 : Heap} {tk9 : Nat} {ls' : Ls} {r : Value}, St w g L l (L3 a0 a1 a2 ls') h9 → ls' = run es ls → Ret s [a0, a1, a2] (fun _ h' => ∀ p ∈ L3 a0 a1 a2 (run es ls), Has h' p) r (up s h9 tk9) := fun S9 e =>
    r_ret S9 kg (by subst e; exact fun p hp => (S9.N p hp).1)
  refine x_if ?_
  cases t with
  | sym x =>
    obtain ⟨t1_, t2_, hx⟩ := ht'.inv_sym
    repeat (first | tbr_iter "zst" | (with_reducible first|refine lo324_tree ‹_› ?_|refine lo324_found ‹_› ?_|refine lo324_head ‹_› ?_|refine lo324_parts ‹_› ?_|refine lo324_inner ‹_› ?_|refine lo324_part ‹_› ?_|refine ca324_law_note ‹_› (by with_unfolding_all rfl) (by with_unfolding_all rfl) ?_ (by with_unfolding_all rfl)|refine lo324_law_note ‹_› ?_|refine ca324_law_targets ‹_› (by with_unfolding_all rfl) (by with_unfolding_all rfl) ?_ (by with_unfolding_all rfl)|refine lo324_law_targets ‹_› ?_|refine ca324_law_walk ‹_› (by with_unfolding_all rfl) (by with_unfolding_all rfl) ?_ (by with_unfolding_all rfl)|refine lo324_law_walk ‹_› ?_) | tbr_iter "zit" | tbr_iter "zif")
    refine x_ret0 ?_
    exact retK_ret (done (r := .none) SS (by cases hw; rfl))
  | int =>
    obtain ⟨t1_, t2_, hx⟩ := ht'.inv_int
    repeat (first | tbr_iter "zst" | (with_reducible first|refine lo324_tree ‹_› ?_|refine lo324_found ‹_› ?_|refine lo324_head ‹_› ?_|refine lo324_parts ‹_› ?_|refine lo324_inner ‹_› ?_|refine lo324_part ‹_› ?_|refine ca324_law_note ‹_› (by with_unfolding_all rfl) (by with_unfolding_all rfl) ?_ (by with_unfolding_all rfl)|refine lo324_law_note ‹_› ?_|refine ca324_law_targets ‹_› (by with_unfolding_all rfl) (by with_unfolding_all rfl) ?_ (by with_unfolding_all rfl)|refine lo324_law_targets ‹_› ?_|refine ca324_law_walk ‹_› (by with_unfolding_all rfl) (by with_unfolding_all rfl) ?_ (by with_unfolding_all rfl)|refine lo324_law_walk ‹_› ?_) | tbr_iter "zit" | tbr_iter "zif")
    refine x_ret0 ?_
    exact retK_ret (done (r := .none) SS (by cases hw; rfl))
  | node hd ps =>
    obtain ⟨e0, ts, m, fs, hs, hw', hm, rfl⟩ := hw.sp
    have ok0 := hw.ok
    obtain ⟨p, t1_, th, vs, h1, h2, h3⟩ := ht'.inv
    repeat (first | tbr_iter "zst" | (with_reducible first|refine lo324_tree ‹_› ?_|refine lo324_found ‹_› ?_|refine lo324_head ‹_› ?_|refine lo324_parts ‹_› ?_|refine lo324_inner ‹_› ?_|refine lo324_part ‹_› ?_|refine ca324_law_note ‹_› (by with_unfolding_all rfl) (by with_unfolding_all rfl) ?_ (by with_unfolding_all rfl)|refine lo324_law_note ‹_› ?_|refine ca324_law_targets ‹_› (by with_unfolding_all rfl) (by with_unfolding_all rfl) ?_ (by with_unfolding_all rfl)|refine lo324_law_targets ‹_› ?_|refine ca324_law_walk ‹_› (by with_unfolding_all rfl) (by with_unfolding_all rfl) ?_ (by with_unfolding_all rfl)|refine lo324_law_walk ‹_› ?_) | tbr_iter "zit" | tbr_iter "zif")
    refine u_tup SS (by simp) ?_
    intro a8 h8 tk8 ht8 k8 S8
    refine c_int ht8 (by repeat (first | exact StrsAre.nil | apply StrsAre.cons)) ?_
    repeat (first | tbr_iter "zst" | (with_reducible first|refine lo324_tree ‹_› ?_|refine lo324_found ‹_› ?_|refine lo324_head ‹_› ?_|refine lo324_parts ‹_› ?_|refine lo324_inner ‹_› ?_|refine lo324_part ‹_› ?_|refine ca324_law_note ‹_› (by with_unfolding_all rfl) (by with_unfolding_all rfl) ?_ (by with_unfolding_all rfl)|refine lo324_law_note ‹_› ?_|refine ca324_law_targets ‹_› (by with_unfolding_all rfl) (by with_unfolding_all rfl) ?_ (by with_unfolding_all rfl)|refine lo324_law_targets ‹_› ?_|refine ca324_law_walk ‹_› (by with_unfolding_all rfl) (by with_unfolding_all rfl) ?_ (by with_unfolding_all rfl)|refine lo324_law_walk ‹_› ?_))
    by_cases q1 : ([S "->", S "let", S "comprehension", S "try"].any (· == hd)) = true
    · refine ite_pos q1 ?_
      repeat (first | tbr_iter "zst" | tbr_iter "zif")
      refine x_ret0 ?_
      obtain ⟨rfl, rfl⟩ := hs.l_skip (any_mem q1)
      cases hw'
      exact retK_ret (done (r := .none) S8 rfl)
    refine ite_neg q1 ?_
    repeat (first | tbr_iter "zst" | tbr_iter "zif")
    refine x_two R'.1 ?_ (by with_unfolding_all rfl) (by with_unfolding_all rfl)
    repeat (first | tbr_iter "zst" | (with_reducible first|refine lo324_tree ‹_› ?_|refine lo324_found ‹_› ?_|refine lo324_head ‹_› ?_|refine lo324_parts ‹_› ?_|refine lo324_inner ‹_› ?_|refine lo324_part ‹_› ?_|refine ca324_law_note ‹_› (by with_unfolding_all rfl) (by with_unfolding_all rfl) ?_ (by with_unfolding_all rfl)|refine lo324_law_note ‹_› ?_|refine ca324_law_targets ‹_› (by with_unfolding_all rfl) (by with_unfolding_all rfl) ?_ (by with_unfolding_all rfl)|refine lo324_law_targets ‹_› ?_|refine ca324_law_walk ‹_› (by with_unfolding_all rfl) (by with_unfolding_all rfl) ?_ (by with_unfolding_all rfl)|refine lo324_law_walk ‹_› ?_) | tbr_iter "zit")
    refine r_newTuple ?_ (by exact Nat.le_of_ble_eq_true rfl)
    intro h4 t4 k4 et4 e4
    refine ⟨h4, _, t4, _, _, rfl, rfl, ⟨_, e4, rfl, _, rfl⟩, fun h5 tk5 k5 => ?_⟩
    have S5 := (S8.keeps k4).keeps k5
    refine so324_parts S5 ?_
    intro h6 tk6 S6 k6
    refine so324_head S6 ?_
    intro h7 tk7 S7 k7
    -- the assigned
    refine x_join (s := s) (fun h => St w g L (V324 (some (.ref at_)) (some (.ref f)) (some (.str hd th)) (some (.ref p)) none none) (L3 a0 a1 a2 (if (opsA.any (· == hd)) = true then run e0 ls else ls)) h) ?_ ?_
    · refine wpAny_If ?_
      repeat (first | tbr_iter "zst" | (with_reducible first|refine lo324_tree ‹_› ?_|refine lo324_found ‹_› ?_|refine lo324_head ‹_› ?_|refine lo324_parts ‹_› ?_|refine lo324_inner ‹_› ?_|refine lo324_part ‹_› ?_|refine ca324_law_note ‹_› (by with_unfolding_all rfl) (by with_unfolding_all rfl) ?_ (by with_unfolding_all rfl)|refine lo324_law_note ‹_› ?_|refine ca324_law_targets ‹_› (by with_unfolding_all rfl) (by with_unfolding_all rfl) ?_ (by with_unfolding_all rfl)|refine lo324_law_targets ‹_› ?_|refine ca324_law_walk ‹_› (by with_unfolding_all rfl) (by with_unfolding_all rfl) ?_ (by with_unfolding_all rfl)|refine lo324_law_walk ‹_› ?_))
      refine u_tup S7 (by simp) ?_
      intro a9 h9 tk9 ht9 k9 S9
      refine c_int ht9 (by repeat (first | exact StrsAre.nil | apply StrsAre.cons)) ?_
      repeat (first | tbr_iter "zst" | (with_reducible first|refine lo324_tree ‹_› ?_|refine lo324_found ‹_› ?_|refine lo324_head ‹_› ?_|refine lo324_parts ‹_› ?_|refine lo324_inner ‹_› ?_|refine lo324_part ‹_› ?_|refine ca324_law_note ‹_› (by with_unfolding_all rfl) (by with_unfolding_all rfl) ?_ (by with_unfolding_all rfl)|refine lo324_law_note ‹_› ?_|refine ca324_law_targets ‹_› (by with_unfolding_all rfl) (by with_unfolding_all rfl) ?_ (by with_unfolding_all rfl)|refine lo324_law_targets ‹_› ?_|refine ca324_law_walk ‹_› (by with_unfolding_all rfl) (by with_unfolding_all rfl) ?_ (by with_unfolding_all rfl)|refine lo324_law_walk ‹_› ?_))
      by_cases q2 : (opsA.any (· == hd)) = true
      · refine ite_pos q2 ?_
        rw [if_pos q2]
        obtain ⟨P, vv, okP, rfl, rfl⟩ := hs.l_asg (any_mem q2)
        obtain ⟨v1, v2, rfl, t1, t2⟩ := h3.two
        have j0 := hf'.keeps S9.F.keep
        have j1 := h2.keeps S9.F.keep
        repeat (first | tbr_iter "zst" | (with_reducible first|refine lo324_tree ‹_› ?_|refine lo324_found ‹_› ?_|refine lo324_head ‹_› ?_|refine lo324_parts ‹_› ?_|refine lo324_inner ‹_› ?_|refine lo324_part ‹_› ?_|refine ca324_law_note ‹_› (by with_unfolding_all rfl) (by with_unfolding_all rfl) ?_ (by with_unfolding_all rfl)|refine lo324_law_note ‹_› ?_|refine ca324_law_targets ‹_› (by with_unfolding_all rfl) (by with_unfolding_all rfl) ?_ (by with_unfolding_all rfl)|refine lo324_law_targets ‹_› ?_|refine ca324_law_walk ‹_› (by with_unfolding_all rfl) (by with_unfolding_all rfl) ?_ (by with_unfolding_all rfl)|refine lo324_law_walk ‹_› ?_) | tbr_iter "zit")
        refine u_pure S9 (sp_lt (R'.le (by omega)) B (fun b o e => S9.F.keep b o (hg b o e)) (t1.mono (TupKeep.of_stays S9.F.keep))) ?_
        rintro r h10 tk10 k10 S10 ⟨b, rfl, hb, x10⟩
        obtain ⟨us, m', hus, eb⟩ := x10.strs
        repeat (first | tbr_iter "zst")
        have h0 := (hL _ (.head _)).2
        have zx : P.xs.length ≤ 2 := by cases P <;> simp [Place.xs]
        refine u_put (k := .a) N S10 rfl (sp_note (R'.le (by omega)) B (fun b o e => S10.F.keep b o (hg b o e)) (S10.N _ (.head _)).1 h0 (b := b) ⟨_, eb, rfl, _, rfl⟩ hus (fun q => by obtain ⟨o, e, _⟩ := (S9.N _ (.head _)).1; have hb' : h9.get? b = none := hb; rw [← q, show h9.get? a0 = some o from e] at hb'; cases hb') (by have := G.1.len; show ls.1.length + P.xs.length ≤ 9000; omega)) ?_
        intro r h11 tk11 S11
        repeat (first | tbr_iter "zst")
        exact ⟨rfl, _, _, rfl, S11⟩
      · refine ite_neg q2 ?_
        rw [if_neg q2]
        repeat (first | tbr_iter "zst")
        exact ⟨rfl, _, _, rfl, S9⟩
    intro h9 tk9 S9
    -- the told
    refine x_join (s := s) (fun h => ∃ o, St w g L (V324 (some (.ref at_)) (some (.ref f)) (some (.str hd th)) (some (.ref p)) o none) (L3 a0 a1 a2 (if hd = S "function" then ls else run e0 ls)) h) ?_ ?_
    · refine wpAny_If ?_
      repeat (first | tbr_iter "zst" | (with_reducible first|refine lo324_tree ‹_› ?_|refine lo324_found ‹_› ?_|refine lo324_head ‹_› ?_|refine lo324_parts ‹_› ?_|refine lo324_inner ‹_› ?_|refine lo324_part ‹_› ?_|refine ca324_law_note ‹_› (by with_unfolding_all rfl) (by with_unfolding_all rfl) ?_ (by with_unfolding_all rfl)|refine lo324_law_note ‹_› ?_|refine ca324_law_targets ‹_› (by with_unfolding_all rfl) (by with_unfolding_all rfl) ?_ (by with_unfolding_all rfl)|refine lo324_law_targets ‹_› ?_|refine ca324_law_walk ‹_› (by with_unfolding_all rfl) (by with_unfolding_all rfl) ?_ (by with_unfolding_all rfl)|refine lo324_law_walk ‹_› ?_))
      refine u_tup S9 (by simp) ?_
      intro a10 h10 tk10 ht10 k10 S10
      refine c_int ht10 (by repeat (first | exact StrsAre.nil | apply StrsAre.cons)) ?_
      repeat (first | tbr_iter "zst" | (with_reducible first|refine lo324_tree ‹_› ?_|refine lo324_found ‹_› ?_|refine lo324_head ‹_› ?_|refine lo324_parts ‹_› ?_|refine lo324_inner ‹_› ?_|refine lo324_part ‹_› ?_|refine ca324_law_note ‹_› (by with_unfolding_all rfl) (by with_unfolding_all rfl) ?_ (by with_unfolding_all rfl)|refine lo324_law_note ‹_› ?_|refine ca324_law_targets ‹_› (by with_unfolding_all rfl) (by with_unfolding_all rfl) ?_ (by with_unfolding_all rfl)|refine lo324_law_targets ‹_› ?_|refine ca324_law_walk ‹_› (by with_unfolding_all rfl) (by with_unfolding_all rfl) ?_ (by with_unfolding_all rfl)|refine lo324_law_walk ‹_› ?_))
      by_cases q3 : ([S "local", S "global"].any (· == hd)) = true
      · refine ite_pos q3 ?_
        obtain ⟨b, rfl⟩ : ∃ b, hd = wrd b := by
          rcases List.mem_cons.mp (any_mem q3) with e | e
          · exact ⟨true, e⟩
          · exact ⟨false, List.mem_singleton.mp e⟩
        obtain ⟨x, t, htt, hx, rfl, rfl⟩ := hs.l_told rfl
        obtain ⟨v1, rfl, t1⟩ := h3.one
        rw [if_neg (by cases b <;> decide)] at S10
        rw [if_neg (by cases b <;> decide)]
        refine x_asg ?_ (by with_unfolding_all rfl)
        refine r_mid (s := s) (fun v h => TreeAt g v (.sym x) ∧ St w g L (V324 (some (.ref at_)) (some (.ref f)) (some (.str (wrd b) th)) (some (.ref p)) none none) (L3 a0 a1 a2 ls) h) ?_ ?_
        · have j1 := h2.keeps S10.F.keep
          rcases htt with rfl | rfl
          · obtain ⟨u1, u2, i1⟩ := t1.inv_sym
            have j2 := i1.keeps S10.F.keep
            repeat (first | tbr_iter "zst" | (with_reducible first|refine lo324_tree ‹_› ?_|refine lo324_found ‹_› ?_|refine lo324_head ‹_› ?_|refine lo324_parts ‹_› ?_|refine lo324_inner ‹_› ?_|refine lo324_part ‹_› ?_|refine ca324_law_note ‹_› (by with_unfolding_all rfl) (by with_unfolding_all rfl) ?_ (by with_unfolding_all rfl)|refine lo324_law_note ‹_› ?_|refine ca324_law_targets ‹_› (by with_unfolding_all rfl) (by with_unfolding_all rfl) ?_ (by with_unfolding_all rfl)|refine lo324_law_targets ‹_› ?_|refine ca324_law_walk ‹_› (by with_unfolding_all rfl) (by with_unfolding_all rfl) ?_ (by with_unfolding_all rfl)|refine lo324_law_walk ‹_› ?_) | tbr_iter "zit" | tbr_iter "zif")
            exact ⟨_, _, rfl, t1, S10⟩
          · obtain ⟨p1, u1, u2, us1, i1, i2, i3⟩ := t1.inv
            obtain ⟨w1, w2, rfl, s1, s2⟩ := i3.two
            have j2 := i1.keeps S10.F.keep
            have j3 := i2.keeps S10.F.keep
            repeat (first | tbr_iter "zst" | (with_reducible first|refine lo324_tree ‹_› ?_|refine lo324_found ‹_› ?_|refine lo324_head ‹_› ?_|refine lo324_parts ‹_› ?_|refine lo324_inner ‹_› ?_|refine lo324_part ‹_› ?_|refine ca324_law_note ‹_› (by with_unfolding_all rfl) (by with_unfolding_all rfl) ?_ (by with_unfolding_all rfl)|refine lo324_law_note ‹_› ?_|refine ca324_law_targets ‹_› (by with_unfolding_all rfl) (by with_unfolding_all rfl) ?_ (by with_unfolding_all rfl)|refine lo324_law_targets ‹_› ?_|refine ca324_law_walk ‹_› (by with_unfolding_all rfl) (by with_unfolding_all rfl) ?_ (by with_unfolding_all rfl)|refine lo324_law_walk ‹_› ?_) | tbr_iter "zit" | tbr_iter "zif")
            exact ⟨_, _, rfl, s1, S10⟩
        rintro v h12 tk12 ⟨tv, S12⟩
        obtain ⟨tva, rfl⟩ := tv.isRef
        refine so324_inner S12 ?_
        intro h13 tk13 S13 k13
        obtain ⟨u1, u2, i1⟩ := tv.inv_sym
        cases b with
        | true =>
          have j0 := hf'.keeps S13.F.keep
          have j1 := i1.keeps S13.F.keep
          repeat (first | tbr_iter "zst" | (with_reducible first|refine lo324_tree ‹_› ?_|refine lo324_found ‹_› ?_|refine lo324_head ‹_› ?_|refine lo324_parts ‹_› ?_|refine lo324_inner ‹_› ?_|refine lo324_part ‹_› ?_|refine ca324_law_note ‹_› (by with_unfolding_all rfl) (by with_unfolding_all rfl) ?_ (by with_unfolding_all rfl)|refine lo324_law_note ‹_› ?_|refine ca324_law_targets ‹_› (by with_unfolding_all rfl) (by with_unfolding_all rfl) ?_ (by with_unfolding_all rfl)|refine lo324_law_targets ‹_› ?_|refine ca324_law_walk ‹_› (by with_unfolding_all rfl) (by with_unfolding_all rfl) ?_ (by with_unfolding_all rfl)|refine lo324_law_walk ‹_› ?_) | tbr_iter "zit" | tbr_iter "zif")
          refine r_newList ?_ (by exact Nat.le_of_ble_eq_true rfl)
          intro h14 bb k14 ea14 e14
          have S14 := S13.keeps k14
          repeat (first | tbr_iter "zst" | (with_reducible first|refine lo324_tree ‹_› ?_|refine lo324_found ‹_› ?_|refine lo324_head ‹_› ?_|refine lo324_parts ‹_› ?_|refine lo324_inner ‹_› ?_|refine lo324_part ‹_› ?_|refine ca324_law_note ‹_› (by with_unfolding_all rfl) (by with_unfolding_all rfl) ?_ (by with_unfolding_all rfl)|refine lo324_law_note ‹_› ?_|refine ca324_law_targets ‹_› (by with_unfolding_all rfl) (by with_unfolding_all rfl) ?_ (by with_unfolding_all rfl)|refine lo324_law_targets ‹_› ?_|refine ca324_law_walk ‹_› (by with_unfolding_all rfl) (by with_unfolding_all rfl) ?_ (by with_unfolding_all rfl)|refine lo324_law_walk ‹_› ?_))
          have hk := S14.N _ (.tail _ (.head _))
          refine u_put (k := .l) (ns := [x]) N S14 rfl (sp_note (R'.le (by omega)) B (fun b o e => S14.F.keep b o (hg b o e)) hk.1 (hL _ (.tail _ (.head _))).2 (b := bb) ⟨_, e14, rfl, _, rfl⟩ (.cons _ _ .nil) (fun q => (S13.fresh.2.2 _ (.tail _ (.head _))) (q.trans ea14)) (by have := G.2.1.len; show ls.2.1.length + 1 ≤ 9000; omega)) ?_
          intro r h15 tk15 S15
          repeat (first | tbr_iter "zst")
          exact ⟨rfl, _, _, rfl, _, S15⟩
        | false =>
          have j0 := hf'.keeps S13.F.keep
          have j1 := i1.keeps S13.F.keep
          repeat (first | tbr_iter "zst" | (with_reducible first|refine lo324_tree ‹_› ?_|refine lo324_found ‹_› ?_|refine lo324_head ‹_› ?_|refine lo324_parts ‹_› ?_|refine lo324_inner ‹_› ?_|refine lo324_part ‹_› ?_|refine ca324_law_note ‹_› (by with_unfolding_all rfl) (by with_unfolding_all rfl) ?_ (by with_unfolding_all rfl)|refine lo324_law_note ‹_› ?_|refine ca324_law_targets ‹_› (by with_unfolding_all rfl) (by with_unfolding_all rfl) ?_ (by with_unfolding_all rfl)|refine lo324_law_targets ‹_› ?_|refine ca324_law_walk ‹_› (by with_unfolding_all rfl) (by with_unfolding_all rfl) ?_ (by with_unfolding_all rfl)|refine lo324_law_walk ‹_› ?_) | tbr_iter "zit" | tbr_iter "zif")
          refine r_newList ?_ (by exact Nat.le_of_ble_eq_true rfl)
          intro h14 bb k14 ea14 e14
          have S14 := S13.keeps k14
          repeat (first | tbr_iter "zst" | (with_reducible first|refine lo324_tree ‹_› ?_|refine lo324_found ‹_› ?_|refine lo324_head ‹_› ?_|refine lo324_parts ‹_› ?_|refine lo324_inner ‹_› ?_|refine lo324_part ‹_› ?_|refine ca324_law_note ‹_› (by with_unfolding_all rfl) (by with_unfolding_all rfl) ?_ (by with_unfolding_all rfl)|refine lo324_law_note ‹_› ?_|refine ca324_law_targets ‹_› (by with_unfolding_all rfl) (by with_unfolding_all rfl) ?_ (by with_unfolding_all rfl)|refine lo324_law_targets ‹_› ?_|refine ca324_law_walk ‹_› (by with_unfolding_all rfl) (by with_unfolding_all rfl) ?_ (by with_unfolding_all rfl)|refine lo324_law_walk ‹_› ?_))
          have hk := S14.N _ (.tail _ (.tail _ (.head _)))
          refine u_put (k := .g) (ns := [x]) N S14 rfl (sp_note (R'.le (by omega)) B (fun b o e => S14.F.keep b o (hg b o e)) hk.1 (hL _ (.tail _ (.tail _ (.head _)))).2 (b := bb) ⟨_, e14, rfl, _, rfl⟩ (.cons _ _ .nil) (fun q => (S13.fresh.2.2 _ (.tail _ (.tail _ (.head _)))) (q.trans ea14)) (by have := G.2.2.len; show ls.2.2.length + 1 ≤ 9000; omega)) ?_
          intro r h15 tk15 S15
          repeat (first | tbr_iter "zst")
          exact ⟨rfl, _, _, rfl, _, S15⟩
      · refine ite_neg q3 ?_
        repeat (first | tbr_iter "zst")
        refine ⟨rfl, _, _, rfl, none, ?_⟩
        have nb : ∀ b, hd ≠ wrd b := fun b e => q3 (by rw [e]; cases b <;> decide)
        by_cases qf : hd = S "function"
        · rw [if_pos qf]
          rw [if_neg (by rw [qf]; decide)] at S10
          exact S10
        · rw [if_neg qf]
          by_cases q2 : (opsA.any (· == hd)) = true
          · rw [if_pos q2] at S10; exact S10
          · rw [if_neg q2] at S10
            rw [hs.l_none (any_not q2) nb qf]; exact S10
    rintro h11 tk11 ⟨o11, S11⟩
    -- the function
    repeat (first | tbr_iter "zst" | (with_reducible first|refine lo324_tree ‹_› ?_|refine lo324_found ‹_› ?_|refine lo324_head ‹_› ?_|refine lo324_parts ‹_› ?_|refine lo324_inner ‹_› ?_|refine lo324_part ‹_› ?_|refine ca324_law_note ‹_› (by with_unfolding_all rfl) (by with_unfolding_all rfl) ?_ (by with_unfolding_all rfl)|refine lo324_law_note ‹_› ?_|refine ca324_law_targets ‹_› (by with_unfolding_all rfl) (by with_unfolding_all rfl) ?_ (by with_unfolding_all rfl)|refine lo324_law_targets ‹_› ?_|refine ca324_law_walk ‹_› (by with_unfolding_all rfl) (by with_unfolding_all rfl) ?_ (by with_unfolding_all rfl)|refine lo324_law_walk ‹_› ?_))
    by_cases qf : (hd == S "function") = true
    · refine ite_pos qf ?_
      obtain ⟨rfl, x, b, hx, rfl, rfl⟩ := hs.l_fn (eq_of_beq qf)
      obtain ⟨v1, v2, rfl, t1, t2⟩ := h3.two
      obtain ⟨p1, u1, u2, us1, i1, i2, i3⟩ := t1.inv
      obtain ⟨w1, w2, rfl, s1, s2⟩ := i3.two
      obtain ⟨u3, u4, z1⟩ := s1.inv_sym
      rw [if_pos (eq_of_beq qf)] at S11
      have j0 := hf'.keeps S11.F.keep
      have j1 := h2.keeps S11.F.keep
      have j2 := i1.keeps S11.F.keep
      have j3 := i2.keeps S11.F.keep
      have j4 := z1.keeps S11.F.keep
      repeat (first | tbr_iter "zst" | (with_reducible first|refine lo324_tree ‹_› ?_|refine lo324_found ‹_› ?_|refine lo324_head ‹_› ?_|refine lo324_parts ‹_› ?_|refine lo324_inner ‹_› ?_|refine lo324_part ‹_› ?_|refine ca324_law_note ‹_› (by with_unfolding_all rfl) (by with_unfolding_all rfl) ?_ (by with_unfolding_all rfl)|refine lo324_law_note ‹_› ?_|refine ca324_law_targets ‹_› (by with_unfolding_all rfl) (by with_unfolding_all rfl) ?_ (by with_unfolding_all rfl)|refine lo324_law_targets ‹_› ?_|refine ca324_law_walk ‹_› (by with_unfolding_all rfl) (by with_unfolding_all rfl) ?_ (by with_unfolding_all rfl)|refine lo324_law_walk ‹_› ?_) | tbr_iter "zit" | tbr_iter "zif")
      refine r_newList ?_ (by exact Nat.le_of_ble_eq_true rfl)
      intro h14 bb k14 ea14 e14
      have S14 := S11.keeps k14
      repeat (first | tbr_iter "zst" | (with_reducible first|refine lo324_tree ‹_› ?_|refine lo324_found ‹_› ?_|refine lo324_head ‹_› ?_|refine lo324_parts ‹_› ?_|refine lo324_inner ‹_› ?_|refine lo324_part ‹_› ?_|refine ca324_law_note ‹_› (by with_unfolding_all rfl) (by with_unfolding_all rfl) ?_ (by with_unfolding_all rfl)|refine lo324_law_note ‹_› ?_|refine ca324_law_targets ‹_› (by with_unfolding_all rfl) (by with_unfolding_all rfl) ?_ (by with_unfolding_all rfl)|refine lo324_law_targets ‹_› ?_|refine ca324_law_walk ‹_› (by with_unfolding_all rfl) (by with_unfolding_all rfl) ?_ (by with_unfolding_all rfl)|refine lo324_law_walk ‹_› ?_))
      refine u_put (k := .a) (ns := [x]) N S14 rfl (sp_note (R'.le (by omega)) B (fun b o e => S14.F.keep b o (hg b o e)) (S14.N _ (.head _)).1 (hL _ (.head _)).2 (b := bb) ⟨_, e14, rfl, _, rfl⟩ (.cons _ _ .nil) (fun q => (S11.fresh.2.2 _ (.head _)) (q.trans ea14)) (by have := G.1.len; show ls.1.length + 1 ≤ 9000; omega)) ?_
      intro r h15 tk15 S15
      repeat (first | tbr_iter "zst")
      refine x_ret0 ?_
      cases hw'
      exact retK_ret (done (r := .none) S15 rfl)
    refine ite_neg qf ?_
    rw [if_neg (beq_not qf)] at S11
    refine wpAny_execs_nil (seqK_next ?_)
    refine x_join (s := s) (fun h => ∃ pp us ps', St w g L (V324 (some (.ref at_)) (some (.ref f)) (some (.str hd th)) (some (.ref pp)) o11 none) (L3 a0 a1 a2 (run e0 ls)) h ∧ IsTup h pp us.toArray ∧ TreesAt g us ps' ∧ us.length ≤ 1000 ∧ ((hd ∈ firsts ∧ ps' = ps) ∨ (hd ∉ firsts ∧ ps' = ts))) ?_ ?_
    · refine wpAny_If ?_
      repeat (first | tbr_iter "zst" | (with_reducible first|refine lo324_tree ‹_› ?_|refine lo324_found ‹_› ?_|refine lo324_head ‹_› ?_|refine lo324_parts ‹_› ?_|refine lo324_inner ‹_› ?_|refine lo324_part ‹_› ?_|refine ca324_law_note ‹_› (by with_unfolding_all rfl) (by with_unfolding_all rfl) ?_ (by with_unfolding_all rfl)|refine lo324_law_note ‹_› ?_|refine ca324_law_targets ‹_› (by with_unfolding_all rfl) (by with_unfolding_all rfl) ?_ (by with_unfolding_all rfl)|refine lo324_law_targets ‹_› ?_|refine ca324_law_walk ‹_› (by with_unfolding_all rfl) (by with_unfolding_all rfl) ?_ (by with_unfolding_all rfl)|refine lo324_law_walk ‹_› ?_))
      by_cases q4 : (hd == S "for") = true
      · refine ite_pos q4 ?_
        obtain ⟨x, tv, tb, rfl, rfl, _⟩ := hs.l_for (eq_of_beq q4)
        obtain ⟨v1, v2, rfl, t1, t2⟩ := h3.two
        obtain ⟨p1, u1, u2, us1, i1, i2, i3⟩ := t1.inv
        obtain ⟨w1, w2, rfl, s1, e2⟩ := i3.two
        have j0 := h2.keeps S11.F.keep
        have j1 := i1.keeps S11.F.keep
        have j2 := i2.keeps S11.F.keep
        repeat (first | tbr_iter "zst" | (with_reducible first|refine lo324_tree ‹_› ?_|refine lo324_found ‹_› ?_|refine lo324_head ‹_› ?_|refine lo324_parts ‹_› ?_|refine lo324_inner ‹_› ?_|refine lo324_part ‹_› ?_|refine ca324_law_note ‹_› (by with_unfolding_all rfl) (by with_unfolding_all rfl) ?_ (by with_unfolding_all rfl)|refine lo324_law_note ‹_› ?_|refine ca324_law_targets ‹_› (by with_unfolding_all rfl) (by with_unfolding_all rfl) ?_ (by with_unfolding_all rfl)|refine lo324_law_targets ‹_› ?_|refine ca324_law_walk ‹_› (by with_unfolding_all rfl) (by with_unfolding_all rfl) ?_ (by with_unfolding_all rfl)|refine lo324_law_walk ‹_› ?_) | tbr_iter "zit")
        refine ⟨h11, _, _, _, rfl, rfl, j2, by simp, by simp, fun c h12 tk12 hc k12 => ?_⟩
        refine so324_parts (S11.keeps k12) ?_
        intro h13 tk13 S13 k13
        repeat (first | tbr_iter "zst")
        exact ⟨rfl, _, _, rfl, _, [_], [tv], S13, (TupKeep.of_low (S11.keeps k12) k13).tup hc, .cons e2 .nil, by simp, .inr ⟨by rw [eq_of_beq q4]; decide, rfl⟩⟩
      · refine ite_neg q4 ?_
        repeat (first | tbr_iter "zst")
        refine ⟨rfl, _, _, rfl, p, vs, ps, S11, h2.keeps S11.F.keep, h3, ?_, ?_⟩
        · rw [h3.length]
          by_cases qq : hd ∈ firsts
          · obtain ⟨_, _, rfl, _⟩ := hs.l_first qq; simp
          · rw [← hs.l_rest (any_not q1) qq (beq_not q4) (beq_not qf)]; have := hw'.len; omega
        · by_cases qq : hd ∈ firsts
          · exact .inl ⟨qq, rfl⟩
          · exact .inr ⟨qq, (hs.l_rest (any_not q1) qq (beq_not q4) (beq_not qf)).symm⟩
    rintro h12 tk12 ⟨pp, us, ps', S12, hpp, hus, hul, hcase⟩
    refine x_cons ?_
    refine r_for ?_ (by intro x; with_unfolding_all rfl)
    refine r_mid (s := s) (fun v h => ∃ c us', v = .ref c ∧ IsTup h c us'.toArray ∧ TreesAt g us' ts ∧ St w g L (V324 (some (.ref at_)) (some (.ref f)) (some (.str hd th)) (some (.ref pp)) o11 none) (L3 a0 a1 a2 (run e0 ls)) h) ?_ ?_
    · repeat (first | tbr_iter "zst" | (with_reducible first|refine lo324_tree ‹_› ?_|refine lo324_found ‹_› ?_|refine lo324_head ‹_› ?_|refine lo324_parts ‹_› ?_|refine lo324_inner ‹_› ?_|refine lo324_part ‹_› ?_|refine ca324_law_note ‹_› (by with_unfolding_all rfl) (by with_unfolding_all rfl) ?_ (by with_unfolding_all rfl)|refine lo324_law_note ‹_› ?_|refine ca324_law_targets ‹_› (by with_unfolding_all rfl) (by with_unfolding_all rfl) ?_ (by with_unfolding_all rfl)|refine lo324_law_targets ‹_› ?_|refine ca324_law_walk ‹_› (by with_unfolding_all rfl) (by with_unfolding_all rfl) ?_ (by with_unfolding_all rfl)|refine lo324_law_walk ‹_› ?_))
      refine u_tup S12 (by simp) ?_
      intro a13 h13 tk13 ht13 k13 S13
      refine c_int ht13 (by repeat (first | exact StrsAre.nil | apply StrsAre.cons)) ?_
      repeat (first | tbr_iter "zst" | (with_reducible first|refine lo324_tree ‹_› ?_|refine lo324_found ‹_› ?_|refine lo324_head ‹_› ?_|refine lo324_parts ‹_› ?_|refine lo324_inner ‹_› ?_|refine lo324_part ‹_› ?_|refine ca324_law_note ‹_› (by with_unfolding_all rfl) (by with_unfolding_all rfl) ?_ (by with_unfolding_all rfl)|refine lo324_law_note ‹_› ?_|refine ca324_law_targets ‹_› (by with_unfolding_all rfl) (by with_unfolding_all rfl) ?_ (by with_unfolding_all rfl)|refine lo324_law_targets ‹_› ?_|refine ca324_law_walk ‹_› (by with_unfolding_all rfl) (by with_unfolding_all rfl) ?_ (by with_unfolding_all rfl)|refine lo324_law_walk ‹_› ?_))
      by_cases q5 : (firsts.any (· == hd)) = true
      · refine ite_pos q5 ?_
        obtain ⟨tv, tr, rfl, rfl, _⟩ := hs.l_first (any_mem q5)
        rcases hcase with ⟨_, rfl⟩ | ⟨c, _⟩
        · obtain ⟨v1, v2, rfl, a, b⟩ := hus.two
          repeat (first | tbr_iter "zst" | (with_reducible first|refine lo324_tree ‹_› ?_|refine lo324_found ‹_› ?_|refine lo324_head ‹_› ?_|refine lo324_parts ‹_› ?_|refine lo324_inner ‹_› ?_|refine lo324_part ‹_› ?_|refine ca324_law_note ‹_› (by with_unfolding_all rfl) (by with_unfolding_all rfl) ?_ (by with_unfolding_all rfl)|refine lo324_law_note ‹_› ?_|refine ca324_law_targets ‹_› (by with_unfolding_all rfl) (by with_unfolding_all rfl) ?_ (by with_unfolding_all rfl)|refine lo324_law_targets ‹_› ?_|refine ca324_law_walk ‹_› (by with_unfolding_all rfl) (by with_unfolding_all rfl) ?_ (by with_unfolding_all rfl)|refine lo324_law_walk ‹_› ?_))
          refine ⟨h13, _, pp, _, rfl, rfl, hpp.keeps k13, by simp, by simp, fun e h14 tk14 hc k14 => ?_⟩
          exact ⟨_, _, rfl, _, [_], rfl, hc, .cons a .nil, S13.keeps k14⟩
        · exact absurd (any_mem q5) c
      · refine ite_neg q5 ?_
        rcases hcase with ⟨c, _⟩ | ⟨_, rfl⟩
        · exact absurd c (any_not q5)
        repeat (first | tbr_iter "zst" | (with_reducible first|refine lo324_tree ‹_› ?_|refine lo324_found ‹_› ?_|refine lo324_head ‹_› ?_|refine lo324_parts ‹_› ?_|refine lo324_inner ‹_› ?_|refine lo324_part ‹_› ?_|refine ca324_law_note ‹_› (by with_unfolding_all rfl) (by with_unfolding_all rfl) ?_ (by with_unfolding_all rfl)|refine lo324_law_note ‹_› ?_|refine ca324_law_targets ‹_› (by with_unfolding_all rfl) (by with_unfolding_all rfl) ?_ (by with_unfolding_all rfl)|refine lo324_law_targets ‹_› ?_|refine ca324_law_walk ‹_› (by with_unfolding_all rfl) (by with_unfolding_all rfl) ?_ (by with_unfolding_all rfl)|refine lo324_law_walk ‹_› ?_))
        exact ⟨_, _, rfl, _, _, rfl, hpp.keeps k13, hus, S13⟩
    rintro v h13 tk13 ⟨c, us', rfl, hc, hus', S13⟩
    refine ⟨h13, _, [c], us'.length, _, rfl, IterOf.tup R'.1 hc, fun I hI => ?_⟩
    have IL : I ≠ L := fun q => S13.low (q ▸ hI)
    have cT := hc
    obtain ⟨oc, ec, cc, nc, dc⟩ := cT
    have cL : c ≠ L := fun q => by
      obtain ⟨o', es, ep, e', d', _⟩ := S13.F.ns; rw [q, e'] at ec; cases ec; rw [dc] at d'; cases d'
    have nW : ∀ b ∈ [I, c], b ∉ [a0, a1, a2] := by
      intro b hb q
      have nt := noTup_L3 fun p hp => (S13.N p hp).1
      rcases List.mem_cons.mp hb with rfl | hb
      · have : ∃ o, h13.get? b = some o := by
          rcases List.mem_cons.mp q with rfl | q
          · obtain ⟨o, e, _⟩ := (S13.N _ (.head _)).1; exact ⟨o, e⟩
          · rcases List.mem_cons.mp q with rfl | q
            · obtain ⟨o, e, _⟩ := (S13.N _ (.tail _ (.head _))).1; exact ⟨o, e⟩
            · rw [List.mem_singleton.mp q]; obtain ⟨o, e, _⟩ := (S13.N _ (.tail _ (.tail _ (.head _)))).1; exact ⟨o, e⟩
        obtain ⟨o, e⟩ := this
        rw [hI] at e; cases e
      · rw [List.mem_singleton.mp hb] at q
        exact nt c q oc ec ⟨cc, _, nc, dc⟩
    refine ⟨fun i h => ∃ cur m' fs' o, Wks m' (ts.drop i) fs' ∧ m' ≤ m ∧ run fs' cur = run fs (run e0 ls) ∧ Gds cur ∧ St w g L (V324 (some (.ref at_)) (some (.ref f)) (some (.str hd th)) (some (.ref pp)) o11 o) (L3 a0 a1 a2 cur) h, fun h14 k14 => ⟨run e0 ls, m, fs, none, hw', Nat.le_refl _, rfl, G.run fun e he => ok0 e (List.mem_append_left _ he), S13.keeps k14⟩, ?_, ?_, ?_⟩
    · rintro i h h' ⟨cur, m', fs', o, j1, j2, j3, j4, J⟩ hT k
      refine ⟨cur, m', fs', o, j1, j2, j3, j4, S13.off (X := [I]) (fun i hi => by rw [List.mem_singleton.mp hi]; exact hI) J (fun q hq => ?_) k⟩
      rcases List.mem_cons.mp hq with rfl | hq
      · exact ⟨_, .head _⟩
      · rcases List.mem_cons.mp hq with rfl | hq
        · exact ⟨_, .tail _ (.head _)⟩
        · rw [List.mem_singleton.mp hq]; exact ⟨_, .tail _ (.tail _ (.head _))⟩
    · rintro i v h tk14 hi hP ⟨cur, m', fs', o, j1, j2, j3, j4, J⟩ hex
      obtain ⟨t, ht, htv⟩ := hus'.at_ hP
      have hd1 : ts.drop i = t :: ts.drop (i + 1) := by
        obtain ⟨hlt, e⟩ := List.getElem?_eq_some_iff.mp ht
        rw [List.drop_eq_getElem_cons hlt, e]
      rw [hd1] at j1
      cases j1 with
      | @cons n1 n2 _ _ es1 fs2 w1 w2 =>
      refine so324_part J ?_
      intro h15 tk15 S15 k15
      repeat (first | tbr_iter "zst" | (with_reducible first|refine lo324_tree ‹_› ?_|refine lo324_found ‹_› ?_|refine lo324_head ‹_› ?_|refine lo324_parts ‹_› ?_|refine lo324_inner ‹_› ?_|refine lo324_part ‹_› ?_|refine ca324_law_note ‹_› (by with_unfolding_all rfl) (by with_unfolding_all rfl) ?_ (by with_unfolding_all rfl)|refine lo324_law_note ‹_› ?_|refine ca324_law_targets ‹_› (by with_unfolding_all rfl) (by with_unfolding_all rfl) ?_ (by with_unfolding_all rfl)|refine lo324_law_targets ‹_› ?_|refine ca324_law_walk ‹_› (by with_unfolding_all rfl) (by with_unfolding_all rfl) ?_ (by with_unfolding_all rfl)|refine lo324_law_walk ‹_› ?_))
      refine ⟨S15.kin, r_use (ih n1 (by omega) (R'.le (by omega)) B (fun b o e => S15.F.keep b o (hg b o e)) (htv.mono (TupKeep.of_stays S15.F.keep)) w1 (hf'.keeps S15.F.keep) (ls := cur) (fun q hq => ⟨(S15.N q hq).1, ?_⟩) N j4 (by omega)) ?_⟩
      · rcases List.mem_cons.mp hq with rfl | hq
        · exact (hL _ (.head _)).2
        · rcases List.mem_cons.mp hq with rfl | hq
          · exact (hL _ (.tail _ (.head _))).2
          · rw [List.mem_singleton.mp hq]; exact (hL _ (.tail _ (.tail _ (.head _)))).2
      rintro r h16 tk16 k16 x16
      have S16 : St w g L (V324 (some (.ref at_)) (some (.ref f)) (some (.str hd th)) (some (.ref pp)) o11 (some v)) (L3 a0 a1 a2 (run es1 cur)) h16 := by
        refine S15.but k16 (fun b hb => ?_) fun q hq => .inr ⟨?_, x16 q hq⟩
        · rcases List.mem_cons.mp hb with rfl | hb
          · exact (S15.N _ (.head _)).2
          · rcases List.mem_cons.mp hb with rfl | hb
            · exact (S15.N _ (.tail _ (.head _))).2
            · rw [List.mem_singleton.mp hb]; exact (S15.N _ (.tail _ (.tail _ (.head _)))).2
        · rcases List.mem_cons.mp hq with rfl | hq
          · exact .head _
          · rcases List.mem_cons.mp hq with rfl | hq
            · exact .tail _ (.head _)
            · rw [List.mem_singleton.mp hq]; exact .tail _ (.tail _ (.head _))
      repeat (first | tbr_iter "zst")
      refine forK_next (fun b hb o e => k16 b o (nW b hb) (k15 b o ?_ e)) ⟨run es1 cur, n2, fs2, _, w2, by omega, by rw [← run_append]; exact j3, j4.run w1.ok, S16⟩
      rcases List.mem_cons.mp hb with rfl | hb
      · exact IL
      · rw [List.mem_singleton.mp hb]; exact cL
    · rintro h tk14 ⟨cur, m', fs', o, j1, j2, j3, j4, J⟩
      rw [hus'.length, List.drop_length] at j1
      cases j1
      repeat (first | tbr_iter "zst")
      exact retK_next (done J (by rw [run_append]; exact j3))
theorem walk_all (n : Nat) : WalkAt w n := by
  induction n using Nat.strongRecOn with
  | ind n ih => exact walk_step ih
end

/-- an object of a class, its dict -/
noncomputable def isInst (C dx : Addr) : OP := fun o => o = instObj C dx
inductive FieldsAre : List DictEntry → List (Str × Value) → Prop
  | nil : FieldsAre [] []
  | cons {hsh : Int} {t : Nat} {x : Str} {v : Value} {es : List DictEntry} {fs : List (Str × Value)} : FieldsAre es fs → FieldsAre (⟨hsh, .str x t, v⟩ :: es) ((x, v) :: fs)
noncomputable def isFields (fs : List (Str × Value)) : OP := fun o => ∃ es n, o = dictOf es n ∧ FieldsAre es fs
theorem isStr_eq (x y : Str) (t : Nat) : (Value.str x t).isStr y = (x == y) := rfl
theorem getL_fields {name : Str} : ∀ {es : List DictEntry} {fs : List (Str × Value)}, FieldsAre es fs → getL name es = some (fs.lookup name) := by
  intro es fs h
  have key : ∀ {es : List DictEntry} {fs : List (Str × Value)}, FieldsAre es fs → (es.find? (·.key.isStr name)).map (·.val) = fs.lookup name ∧ (es.any (·.refKey)) = false := by
    intro es fs h
    induction h with
    | nil => exact ⟨rfl, rfl⟩
    | @cons hsh t x v es fs _ ih =>
      refine ⟨?_, ?_⟩
      · rw [List.find?_cons, List.lookup_cons]
        show (match (Value.str x t).isStr name with | true => _ | false => _ : Option DictEntry).map _ = _
        rw [isStr_eq]
        by_cases q : x = name
        · subst q; simp
        · have q1 : (x == name) = false := beq_eq_false_iff_ne.mpr q
          have q2 : (name == x) = false := beq_eq_false_iff_ne.mpr fun e => q e.symm
          rw [q1, q2]; exact ih.1
      · rw [List.any_cons, ih.2, Bool.or_false]; rfl
  obtain ⟨k1, k2⟩ := key h
  unfold getL
  cases e : es.find? (·.key.isStr name) with
  | some en => rw [e] at k1; simp only [← k1]; rfl
  | none => rw [e] at k1; simp only [← k1, k2]; rfl
noncomputable def putF (name : Str) (v : Value) : List (Str × Value) → List (Str × Value)
  | [] => [(name, v)]
  | (x, u) :: r => if x == name then (x, v) :: r else (x, u) :: putF name v r
theorem putL_fields {name : Str} {hsh : Int} {t : Nat} {v : Value} : ∀ {es : List DictEntry} {fs : List (Str × Value)}, FieldsAre es fs → FieldsAre (putL name hsh (.str name t) v es) (putF name v fs)
  | _, _, .nil => .cons .nil
  | _, _, @FieldsAre.cons hs t' x u es fs h => by
    unfold putL putF
    show FieldsAre (if (Value.str x t').isStr name = true then _ else _) _
    rw [isStr_eq]
    by_cases q : (x == name) = true
    · rw [if_pos q, if_pos q]; exact .cons h
    · rw [if_neg q, if_neg q]; exact .cons (putL_fields h)
theorem FieldsAre.length {es : List DictEntry} {fs : List (Str × Value)} (h : FieldsAre es fs) : es.length = fs.length := by
  induction h with
  | nil => rfl
  | cons _ ih => rw [List.length_cons, List.length_cons, ih]
inductive LN : Led → List (Addr × Obj) → Prop
  | nil : LN [] []
  | cons {a : Addr} {P : OP} {o : Obj} {led : Led} {news : List (Addr × Obj)} : P o → LN led news → LN ((a, P) :: led) ((a, o) :: news)
section
variable {w : World} {A : Around} {s : Shared} {g h h' : Heap} {L : Addr} {l : LM} {led : Led} {tk : Nat} {E : Value → Shared → Prop}
theorem St.news (SS : St w g L l led h) : ∃ news, News g L h news ∧ LN led news := by
  have key : ∀ {led : Led}, (∀ p ∈ led, Has h p ∧ p.1 ≠ L ∧ g.get? p.1 = none) → ∃ news, News g L h news ∧ LN led news := by
    intro led
    induction led with
    | nil => exact fun _ => ⟨[], fun p hp => (nomatch hp), .nil⟩
    | cons q r ih =>
      intro H
      obtain ⟨news, N, X⟩ := ih fun p hp => H p (.tail _ hp)
      obtain ⟨⟨o, e, po⟩, z⟩ := H q (.head _)
      refine ⟨(q.1, o) :: news, fun p hp => ?_, .cons po X⟩
      rcases List.mem_cons.mp hp with rfl | hp
      · exact ⟨e, z⟩
      · exact N p hp
  exact key SS.N
theorem LN.has {news : List (Addr × Obj)} (X : LN led news) (N : News g L h news) : ∀ p ∈ led, Has h p ∧ p.1 ≠ L ∧ g.get? p.1 = none := by
  induction X with
  | nil => exact fun _ hp => nomatch hp
  | @cons a P o led news po X ih =>
    intro p hp
    rcases List.mem_cons.mp hp with rfl | hp
    · have := N (a, o) (.head _); exact ⟨⟨o, this.1, po⟩, this.2⟩
    · exact ih (fun q hq => N q (.tail _ hq)) p hp
theorem LN.split {pre post : Led} {a : Addr} {P : OP} : ∀ {news : List (Addr × Obj)}, LN (pre ++ (a, P) :: post) news → ∃ n1 o n2, news = n1 ++ (a, o) :: n2 ∧ P o ∧ LN pre n1 ∧ LN post n2 := by
  induction pre with
  | nil => intro news X; cases X with | cons po X => exact ⟨[], _, _, rfl, po, .nil, X⟩
  | cons q r ih =>
    intro news X
    cases X with
    | cons po X => obtain ⟨n1, o, n2, e, p2, X1, X2⟩ := ih X; exact ⟨_ :: n1, o, n2, by rw [e]; rfl, p2, .cons po X1, X2⟩
theorem LN.join {pre post : Led} {a : Addr} {P : OP} {o : Obj} {n1 n2 : List (Addr × Obj)} (X1 : LN pre n1) (po : P o) (X2 : LN post n2) : LN (pre ++ (a, P) :: post) (n1 ++ (a, o) :: n2) := by
  induction X1 with
  | nil => exact .cons po X2
  | cons p _ ih => exact .cons p ih
theorem LN.ne {a : Addr} {news : List (Addr × Obj)} (X : LN led news) (h : ∀ p ∈ led, p.1 ≠ a) : ∀ p ∈ news, p.1 ≠ a := by
  induction X with
  | nil => exact fun _ hp => nomatch hp
  | cons po X ih =>
    intro p hp
    rcases List.mem_cons.mp hp with rfl | hp
    · exact h _ (.head _)
    · exact ih (fun q hq => h q (.tail _ hq)) p hp
theorem Upd_app {a : Addr} {o o' : Obj} : ∀ {n1 n2 : List (Addr × Obj)}, (∀ p ∈ n1 ++ n2, p.1 ≠ a) → Upd a o o' (n1 ++ (a, o) :: n2) (n1 ++ (a, o') :: n2)
  | [], _, h => .head h
  | p :: r, n2, h => .tail (h p (.head _)) (Upd_app fun q hq => h q (.tail _ hq))
/-- self.name = v -/
theorem u_set {pre post : Led} {x dx C : Addr} {fs : List (Str × Value)} {name : Str} {v : Value} {Q : Unit → Shared → Prop} (SS : St w g L l (pre ++ (dx, isFields fs) :: post) h) (ne : ∀ p ∈ pre ++ post, p.1 ≠ dx) (hx : Has h (x, isInst C dx))
    (hs : findIn (KK w.params) (.ref C) "__setattr__" = some (some (.builtin "object.__setattr__"))) (hp : plainOver (KK w.params) C = true) (ht : takerIn (KK w.params) C name = some none) (hh : hasDictIn (KK w.params) C = true) (hz : fs.length ≤ 100)
    (q : ∀ h' tk', St w g L l (pre ++ (dx, isFields (putF name v fs)) :: post) h' → Q () (up s h' tk')) : wpAny (model PW w) A (setAttr (.ref x) name v) Q E (up s h tk) := by
  obtain ⟨news, N, X⟩ := SS.news
  obtain ⟨n1, o, n2, rfl, ⟨es, n, rfl, hf⟩, X1, X2⟩ := X.split
  obtain ⟨ox, ex, rfl⟩ := hx
  have ed := (N (dx, dictOf es n) (List.mem_append_right _ (.head _))).1
  have hf' := putL_fields (name := name) (hsh := PyData.keyHash w.params name) (t := (up s h tk).toks + 1) (v := v) hf
  refine set_dict (s := up s h tk) SS.F SS.B.kin N (x := x) (C := C) (dx := dx) ⟨ex, rfl, rfl, ed⟩ rfl hs hp ht hh (by rw [getL_fields hf]; rfl) rfl (Upd_app fun p hp => ?_) ?_ fun h' F' N' => q h' _ ⟨SS.B, F', (X1.join (P := isFields (putF name v fs)) ⟨_, _, rfl, hf'⟩ X2).has N'⟩
  · rcases List.mem_append.mp hp with hp | hp
    · exact X1.ne (fun p hp => ne p (List.mem_append_left _ hp)) p hp
    · exact X2.ne (fun p hp => ne p (List.mem_append_right _ hp)) p hp
  · rw [hf'.length]
    have : ∀ fs : List (Str × Value), (putF name v fs).length ≤ fs.length + 1 := fun fs => by
      induction fs with
      | nil => exact Nat.le_refl _
      | cons p r ih =>
        obtain ⟨y, u⟩ := p
        unfold putF
        split
        · exact Nat.le_succ _
        · rw [List.length_cons, List.length_cons]; omega
    have := this fs
    omega
/-- x.name, read -/
theorem u_get {expr : Bool} {x dx C : Addr} {fs : List (Str × Value)} {name : Str} {v : Value} {attr : Option Value} {Q : Value → Shared → Prop} (SS : St w g L l led h) (hx : Has h (x, isInst C dx)) (hd : Has h (dx, isFields fs))
    (hg : plainGet (KK w.params) C name = true) (hh : hasDictIn (KK w.params) C = true) (ha : findIn (KK w.params) (.ref C) name = some attr) (hn : noGet (KK w.params) attr = true) (hl : fs.lookup name = some v) (hv : handedIn v = true)
    (q : ∀ tk', Q v (up s h tk')) : wpAny (model PW w) A (getAttr (.ref x) name expr) Q E (up s h tk) := by
  obtain ⟨ox, ex, rfl⟩ := hx
  obtain ⟨od, ed, es, n, rfl, hf⟩ := hd
  exact get_own (s := up s h tk) SS.F SS.B.kin (x := x) (C := C) (es := es) (n := n) ⟨ex, rfl, rfl, ed⟩ hg hh ha hn (by rw [getL_fields hf, hl]) hv (q _)
/-- x.name(..), a def of the class -/
theorem u_meth {x dx C f : Addr} {fs : List (Str × Value)} {name : Str} {pl : Sem Bool} {Q : Value × List Value → Shared → Prop} (SS : St w g L l led h) (hx : Has h (x, isInst C dx)) (hd : Has h (dx, isFields fs))
    (hg : plainGet (KK w.params) C name = true) (hf : findIn (KK w.params) (.ref C) name = some (some (.ref f))) (ht : isFn (KK w.params) (.ref f) = true) (hl : fs.lookup name = none)
    (q : Q (.ref f, [.ref x]) (up s h tk)) : wpAny (model PW w) A (getMethod (.ref x) name pl) Q E (up s h tk) := by
  obtain ⟨ox, ex, rfl⟩ := hx
  obtain ⟨od, ed, es, n, rfl, hfa⟩ := hd
  exact method_inst (s := up s h tk) SS.F SS.B.kin (x := x) (C := C) (es := es) (n := n) ⟨ex, rfl, rfl, ed⟩ hg hf ht (by rw [getL_fields hfa, hl]) q
end

noncomputable abbrev Around.make (A : Around) (C : Addr) (args : List Value) : Around := A.under (.builtin "type.__call__" ⟨.ref C :: args, []⟩)
theorem Room.make {n : Nat} {A : Around} {C : Addr} {args : List Value} (R : Room (n + 1) A) : Room n (Around.make A C args) := by
  have hd : (Around.make A C args).depth = A.depth + 1 := rfl
  have hu : (Around.make A C args).units = A.units + 1 := by show A.units + (Code.builtin "type.__call__" ⟨.ref C :: args, []⟩).cUnits = _; rfl
  have hf : (Around.make A C args).frames = A.frames := rfl
  refine ⟨R.1, ?_, ?_, ?_⟩
  · rw [hd]; have := R.2.1; omega
  · rw [hu]; have := R.2.2.1; omega
  · rw [hf]; exact R.2.2.2
section
variable {w : World} {A : Around} {E : Value → Shared → Prop} {s : Shared} {h₀ g h : Heap} {L a : Addr} {l : LM} {led : Led} {tk : Nat}
theorem r_code {f : Addr} {nm ql : String} {st : Stmt} {dV : Value} {mo : String} {mt : Nat} {cd : Addr} {args : List Value} {binds : List (Str × Value)} {R₀ : Result → Shared → Prop} {n : Nat}
    (ho : (KK w.params).lookup f = some (fnO nm ql st dV mo mt cd)) (hcd : codeIn (KK w.params) (.ref cd) (S ql) = true) (R : Room (n + 1) A) (B : Bs w h₀) (k₀ : h₀.StaysIn s.heap)
    (W : Led) (hW : ∀ p ∈ W, Has s.heap p ∧ h₀.get? p.1 = none)
    (hbind : BindsTo s (fnOf (S nm) (S ql) (fnA st) (fnB st) (fnS st) dV .none .none (sV mo mt) none (.ref cd) .none) ⟨args, []⟩ binds)
    (hloc : ∀ y ∈ binds, (fnS st).names.lookup y.1 = some .local)
    (hk : (fnS st).kind = .function) (hco : (fnS st).isCoroutine = false) (hgen : (fnS st).isGenerator = false) (hcell : ∀ x ∈ (fnS st).names, x.2 ≠ .cell)
    (h : ∀ g L h₁ tk, St w g L (binds.reverse.map fun x => (x.1, some x.2)) W h₁ → h₀.StaysIn g → (∀ b o, b ∉ W.map (·.1) → s.heap.get? b = some o → g.get? b = some o) → (∀ b o, g.get? b = some o → s.heap.get? b = some o) →
      s.heap.StaysIn h₁ → Room n (A.deeper (envX (S ql) (fnS st) L f (.ref cd) [])) →
      wpAny (model PW w) (A.deeper (envX (S ql) (fnS st) L f (.ref cd) [])) (execs (fnB st) (envX (S ql) (fnS st) L f (.ref cd) []))
        (retK fun v s' => R₀ (.ok (.ret v)) s') NoE (up s h₁ tk)) :
    codeAny (model PW w) A (.call (.ref f) ⟨args, []⟩) R₀ s := by
  have B' := B.keeps k₀
  refine codeAny_call_def (fd := fnOf (S nm) (S ql) (fnA st) (fnB st) (fnS st) dV .none .none (sV mo mt) none (.ref cd) .none) (body := fnB st) (binds := binds) R.depth (B'.kin _ _ ho) rfl B'.nolimit (codeRec_of B'.kin hcd) rfl hbind hcell hloc (fun h₁ hns hk₁ => ?_) hco hgen hk
  have nW : ∀ b o, h₀.get? b = some o → b ∉ W.map (·.1) := fun b o e q => by
    obtain ⟨p, hp, rfl⟩ := List.mem_map.mp q
    rw [(hW p hp).2] at e; cases e
  have kg : h₀.StaysIn (hideAll s.heap (W.map (·.1))) := fun b o e => hideAll_get _ (k₀ b o e) (nW b o e)
  refine wpAny_mono (h (hideAll s.heap (W.map (·.1))) s.heap.objs.size h₁ _ ⟨B.keeps kg, ⟨?_, fun b o e => hk₁ b o (of_hideAll _ e), Nat.le_of_eq (hideAll_size _ _)⟩, fun p hp => ?_⟩ kg (fun b o nb e => hideAll_get _ e nb) (fun b o e => of_hideAll _ e) hk₁ R.deeper) (fun _ _ x => x) fun _ _ x => x.elim
  · have := mp_binds binds.reverse
    rw [← this]; exact hns
  · obtain ⟨⟨o, e, r⟩, _⟩ := hW p hp
    exact ⟨⟨o, hk₁ _ _ e, r⟩, Nat.ne_of_lt (Heap.lt_size e), hideAll_none _ (List.mem_map_of_mem hp)⟩
/-- what an __init__ leaves -/
noncomputable def InitK (s : Shared) (W : List Addr) (Φ : Heap → Prop) (r : Result) (s' : Shared) : Prop := r = .ok (.ret .none) ∧ ∃ h' tk, s' = up s h' tk ∧ (∀ b o, b ∉ W → s.heap.get? b = some o → h'.get? b = some o) ∧ Φ h'
theorem u_make {C fI : Addr} {args : List Value} {Φ : Addr → Addr → Heap → Heap → Prop} {Q : Value → Shared → Prop} (SS : St w g L l led h) (B : Bs w h₀) (hg : h₀.StaysIn g) (hm : makesIn (KK w.params) C = true) (hi : findIn (KK w.params) (.ref C) "__init__" = some (some (.ref fI))) (hf : isFn (KK w.params) (.ref fI) = true)
    (init : ∀ x dx h' tk', h₀.StaysIn h' → Has h' (x, isInst C dx) → Has h' (dx, isFields []) → h₀.get? x = none → h₀.get? dx = none → x ≠ dx →
      codeAny (model PW w) (Around.make A C args) (.call (.ref fI) ⟨.ref x :: args, []⟩) (InitK (up s h' tk') [dx] (Φ x dx h')) (up s h' tk'))
    (q : ∀ x dx h' h'' tk'', St w g L l ((x, isInst C dx) :: (dx, isFields []) :: led) h' → x ≠ dx → (∀ p ∈ led, p.1 ≠ dx ∧ p.1 ≠ x) → (∀ b o, b ∉ [dx] → h'.get? b = some o → h''.get? b = some o) → Φ x dx h' h'' → Q (.ref x) (up s h'' tk'')) :
    wpAny (model PW w) A (call (.ref C) args) Q E (up s h tk) := by
  obtain ⟨news, N, X⟩ := SS.news
  refine call_cls (s := up s h tk) SS.F SS.B.kin N hm hi hf fun x dx h' F' N' hlt hdx => ?_
  have S' : St w g L l ((x, isInst C dx) :: (dx, isFields []) :: led) h' := ⟨SS.B, F', (LN.cons (P := isInst C dx) rfl (LN.cons (P := isFields []) ⟨[], 0, rfl, .nil⟩ X)).has N'⟩
  have xd : x ≠ dx := fun q => Nat.lt_irrefl _ (q ▸ hdx : @LT.lt Nat _ x x)
  have none0 : ∀ {b}, g.get? b = none → h₀.get? b = none := fun {b} e => by
    cases q : h₀.get? b with
    | none => rfl
    | some o => rw [hg _ _ q] at e; cases e
  have I := init x dx h' tk (fun b o e => S'.F.keep b o (hg b o e)) (S'.N _ (.head _)).1 (S'.N _ (.tail _ (.head _))).1 (none0 (S'.N _ (.head _)).2.2) (none0 (S'.N _ (.tail _ (.head _))).2.2) xd
  refine codeAny_mono I fun r s' hr => ?_
  obtain ⟨rfl, h'', tk'', rfl, k, φ⟩ := hr
  refine ⟨rfl, q x dx h' h'' tk'' S' xd (fun p hp => ?_) k φ⟩
  have lt : @LT.lt Nat _ p.1 dx := by
    have : ∀ {led : Led} {news : List (Addr × Obj)}, LN led news → (∀ p ∈ news, @LT.lt Nat _ p.1 dx) → ∀ p ∈ led, @LT.lt Nat _ p.1 dx := by
      intro led news X
      induction X with
      | nil => exact fun _ _ hp => nomatch hp
      | cons _ _ ih =>
        intro H p hp
        rcases List.mem_cons.mp hp with rfl | hp
        · exact H _ (.head _)
        · exact ih (fun q hq => H q (.tail _ hq)) p hp
    exact this X hlt p hp
  exact ⟨Nat.ne_of_lt lt, Nat.ne_of_lt (Nat.lt_trans lt hdx)⟩
end

theorem putF_len {name : Str} {v : Value} : ∀ {fs : List (Str × Value)}, (putF name v fs).length ≤ fs.length + 1
  | [] => Nat.le_refl _
  | (y, u) :: r => by
    unfold putF
    split
    · exact Nat.le_succ _
    · have := putF_len (name := name) (v := v) (fs := r); rw [List.length_cons, List.length_cons]; omega
theorem x_setattr {w : World} {A : Around} {E : Value → Shared → Prop} {s : Shared} {env : Env} {rest : List Stmt} {Q : Flow → Shared → Prop} {o value : Expr} {attr : Str} {p pos : Pos}
    (h : wpAny (model PW w) A (eval value env) (fun v s₁ => wpAny (model PW w) A (eval o env) (fun ov s₂ => wpAny (model PW w) A (setAttr ov attr v) (fun _ s₃ => wpAny (model PW w) A (execs rest env) Q E s₃) E s₂) E s₁) E s)
    (hs : swapsWith value (some (.Attribute o attr p)) pos.line env = pure false) : wpAny (model PW w) A (execs (.Assign [.Attribute o attr p] value pos :: rest) env) Q E s := wpAny_execs_cons (plainObj_wpAny_Assign_Attribute h hs)
theorem sa167 (P : Params) : findIn (KK P) (.ref 167) "__setattr__" = some (some (.builtin "object.__setattr__")) := by kernel_rfl
theorem po167 (P : Params) : plainOver (KK P) 167 = true := by kernel_rfl
theorem hd167 (P : Params) : hasDictIn (KK P) 167 = true := by kernel_rfl
theorem mk167 (P : Params) : makesIn (KK P) 167 = true := by kernel_rfl
theorem fi167 (P : Params) : findIn (KK P) (.ref 167) "__init__" = some (some (.ref 143)) := by kernel_rfl
theorem if167 (P : Params) : isFn (KK P) (.ref 143) = true := by kernel_rfl
theorem ta167_assigned (P : Params) : takerIn (KK P) 167 (Str.ofString "assigned") = some none := by kernel_rfl
theorem ga167_assigned (P : Params) : plainGet (KK P) 167 (Str.ofString "assigned") = true := by kernel_rfl
theorem fa167_assigned (P : Params) : findIn (KK P) (.ref 167) (Str.ofString "assigned") = some none := by kernel_rfl
theorem ta167_locals (P : Params) : takerIn (KK P) 167 (Str.ofString "locals") = some none := by kernel_rfl
theorem ga167_locals (P : Params) : plainGet (KK P) 167 (Str.ofString "locals") = true := by kernel_rfl
theorem fa167_locals (P : Params) : findIn (KK P) (.ref 167) (Str.ofString "locals") = some none := by kernel_rfl
theorem ta167_globals (P : Params) : takerIn (KK P) 167 (Str.ofString "globals") = some none := by kernel_rfl
theorem ga167_globals (P : Params) : plainGet (KK P) 167 (Str.ofString "globals") = true := by kernel_rfl
theorem fa167_globals (P : Params) : findIn (KK P) (.ref 167) (Str.ofString "globals") = some none := by kernel_rfl
theorem in143 {w : World} {A : Around} {s : Shared} {h₀ : Heap} {x dx : Addr} (R : Room 1 A) (B : Bs w h₀) (k₀ : h₀.StaysIn s.heap) (hx : Has s.heap (x, isInst 167 dx)) (hd : Has s.heap (dx, isFields [])) (nd : h₀.get? dx = none) (xd : x ≠ dx) :
    codeAny (model PW w) A (.call (.ref 143) ⟨[.ref x], []⟩) (InitK s [dx] fun h' => ∃ a0 a1 a2, Ne3 a0 a1 a2 ∧ (∀ p ∈ L3 a0 a1 a2 ([], [], []), Has h' p ∧ s.heap.get? p.1 = none) ∧ Has h' (dx, isFields [(S "assigned", .ref a0), (S "locals", .ref a1), (S "globals", .ref a2)])) s := by
  refine r_code (binds := [(S "self", .ref x)]) (f143 _) (c143 _) R B k₀ [(dx, isFields [])] (fun p hp => by rw [List.mem_singleton.mp hp]; exact ⟨hd, nd⟩) (BindsTo.of_eq (by rfl)) (locs (by rfl)) (by rfl) (by rfl) (by rfl) (by decide) ?_
  intro g L h₁ tk S₀ hg kg kg' k₁ R'
  have SS := S₀.congr (ml143 (.ref x))
  obtain ⟨ox, ex, ix⟩ := hx
  have gx : g.get? x = some ox := kg x ox (fun q => xd (List.mem_singleton.mp q)) ex
  have nS : ∀ {b}, g.get? b = none → b ≠ dx → s.heap.get? b = none := fun {b} e nb => by
    cases q : s.heap.get? b with
    | none => rfl
    | some o => rw [kg b o (fun q => nb (List.mem_singleton.mp q)) q] at e; cases e
  refine x_setattr ?_ (by rfl)
  repeat (first | tbr_iter "zst" | (with_reducible first|refine lo143_self ‹_› ?_))
  refine r_newList ?_ (by exact Nat.le_of_ble_eq_true rfl)
  intro h2 a0 k2 ea0 e2
  have f0 := SS.fresh
  have S2 := (SS.keeps k2).add (P := isStrs []) ⟨_, e2, [], 0, .nil, rfl⟩ (ea0 ▸ f0.2.1) (ea0 ▸ f0.1)
  have d0 : dx ≠ a0 := fun q => f0.2.2 _ (.head _) (q.trans ea0)
  repeat (first | tbr_iter "zst" | (with_reducible first|refine lo143_self ‹_› ?_))
  refine u_set (pre := [(a0, isStrs [])]) (post := []) S2 (by simp; exact fun q => d0 q.symm) ⟨ox, S2.F.keep _ _ gx, ix⟩ (sa167 _) (po167 _) (ta167_assigned _) (hd167 _) (by simp) ?_
  intro h3 tk3 S3
  refine x_setattr ?_ (by with_unfolding_all rfl)
  repeat (first | tbr_iter "zst" | (with_reducible first|refine lo143_self ‹_› ?_))
  refine r_newList ?_ (by exact Nat.le_of_ble_eq_true rfl)
  intro h4 a1 k4 ea1 e4
  have f1 := S3.fresh
  have S4 := (S3.keeps k4).add (P := isStrs []) ⟨_, e4, [], 0, .nil, rfl⟩ (ea1 ▸ f1.2.1) (ea1 ▸ f1.1)
  have d1 : dx ≠ a1 := fun q => f1.2.2 _ (.tail _ (.head _)) (q.trans ea1)
  have n01 : a0 ≠ a1 := fun q => f1.2.2 _ (.head _) (q.trans ea1)
  repeat (first | tbr_iter "zst" | (with_reducible first|refine lo143_self ‹_› ?_))
  refine u_set (pre := [(a1, isStrs []), (a0, isStrs [])]) (post := []) S4 (by simp; exact ⟨fun q => d1 q.symm, fun q => d0 q.symm⟩) ⟨ox, S4.F.keep _ _ gx, ix⟩ (sa167 _) (po167 _) (ta167_locals _) (hd167 _) (Nat.le_trans putF_len (by simp)) ?_
  intro h5 tk5 S5
  refine x_setattr ?_ (by with_unfolding_all rfl)
  repeat (first | tbr_iter "zst" | (with_reducible first|refine lo143_self ‹_› ?_))
  refine r_newList ?_ (by exact Nat.le_of_ble_eq_true rfl)
  intro h6 a2 k6 ea2 e6
  have f2 := S5.fresh
  have S6 := (S5.keeps k6).add (P := isStrs []) ⟨_, e6, [], 0, .nil, rfl⟩ (ea2 ▸ f2.2.1) (ea2 ▸ f2.1)
  have d2 : dx ≠ a2 := fun q => f2.2.2 _ (.tail _ (.tail _ (.head _))) (q.trans ea2)
  have n12 : a1 ≠ a2 := fun q => f2.2.2 _ (.head _) (q.trans ea2)
  have n02 : a0 ≠ a2 := fun q => f2.2.2 _ (.tail _ (.head _)) (q.trans ea2)
  repeat (first | tbr_iter "zst" | (with_reducible first|refine lo143_self ‹_› ?_))
  refine u_set (pre := [(a2, isStrs []), (a1, isStrs []), (a0, isStrs [])]) (post := []) S6 (by simp; exact ⟨fun q => d2 q.symm, fun q => d1 q.symm, fun q => d0 q.symm⟩) ⟨ox, S6.F.keep _ _ gx, ix⟩ (sa167 _) (po167 _) (ta167_globals _) (hd167 _) (Nat.le_trans putF_len (Nat.succ_le_succ (Nat.le_trans putF_len (by simp)))) ?_
  intro h7 tk7 S7
  repeat (first | tbr_iter "zst" | (with_reducible first|refine lo143_self ‹_› ?_))
  show InitK s [dx] _ (.ok (.ret .none)) (up s h7 tk7)
  refine ⟨rfl, h7, tk7, rfl, fun b o nb e => S7.F.keep b o (kg b o nb e), a0, a1, a2, ⟨n01, n02, n12⟩, fun p hp => ?_, ?_⟩
  · rcases List.mem_cons.mp hp with rfl | hp
    · have := S7.N _ (.tail _ (.tail _ (.head _))); exact ⟨this.1, nS this.2.2 (fun q => d0 q.symm)⟩
    · rcases List.mem_cons.mp hp with rfl | hp
      · have := S7.N _ (.tail _ (.head _)); exact ⟨this.1, nS this.2.2 (fun q => d1 q.symm)⟩
      · rw [List.mem_singleton.mp hp]
        have := S7.N _ (.head _); exact ⟨this.1, nS this.2.2 (fun q => d2 q.symm)⟩
  · exact (S7.N _ (.tail _ (.tail _ (.tail _ (.head _))))).1
theorem sa254 (P : Params) : findIn (KK P) (.ref 254) "__setattr__" = some (some (.builtin "object.__setattr__")) := by kernel_rfl
theorem po254 (P : Params) : plainOver (KK P) 254 = true := by kernel_rfl
theorem hd254 (P : Params) : hasDictIn (KK P) 254 = true := by kernel_rfl
theorem mk254 (P : Params) : makesIn (KK P) 254 = true := by kernel_rfl
theorem fi254 (P : Params) : findIn (KK P) (.ref 254) "__init__" = some (some (.ref 244)) := by kernel_rfl
theorem if254 (P : Params) : isFn (KK P) (.ref 244) = true := by kernel_rfl
theorem ta254_assigned (P : Params) : takerIn (KK P) 254 (Str.ofString "assigned") = some none := by kernel_rfl
theorem ga254_assigned (P : Params) : plainGet (KK P) 254 (Str.ofString "assigned") = true := by kernel_rfl
theorem fa254_assigned (P : Params) : findIn (KK P) (.ref 254) (Str.ofString "assigned") = some none := by kernel_rfl
theorem ta254_told_local (P : Params) : takerIn (KK P) 254 (Str.ofString "told_local") = some none := by kernel_rfl
theorem ga254_told_local (P : Params) : plainGet (KK P) 254 (Str.ofString "told_local") = true := by kernel_rfl
theorem fa254_told_local (P : Params) : findIn (KK P) (.ref 254) (Str.ofString "told_local") = some none := by kernel_rfl
theorem ta254_told_global (P : Params) : takerIn (KK P) 254 (Str.ofString "told_global") = some none := by kernel_rfl
theorem ga254_told_global (P : Params) : plainGet (KK P) 254 (Str.ofString "told_global") = true := by kernel_rfl
theorem fa254_told_global (P : Params) : findIn (KK P) (.ref 254) (Str.ofString "told_global") = some none := by kernel_rfl
theorem in244 {w : World} {A : Around} {s : Shared} {h₀ : Heap} {x dx : Addr} (R : Room 1 A) (B : Bs w h₀) (k₀ : h₀.StaysIn s.heap) (hx : Has s.heap (x, isInst 254 dx)) (hd : Has s.heap (dx, isFields [])) (nd : h₀.get? dx = none) (xd : x ≠ dx) :
    codeAny (model PW w) A (.call (.ref 244) ⟨[.ref x], []⟩) (InitK s [dx] fun h' => ∃ a0 a1 a2, Ne3 a0 a1 a2 ∧ (∀ p ∈ L3 a0 a1 a2 ([], [], []), Has h' p ∧ s.heap.get? p.1 = none) ∧ Has h' (dx, isFields [(S "assigned", .ref a0), (S "told_local", .ref a1), (S "told_global", .ref a2)])) s := by
  refine r_code (binds := [(S "self", .ref x)]) (f244 _) (c244 _) R B k₀ [(dx, isFields [])] (fun p hp => by rw [List.mem_singleton.mp hp]; exact ⟨hd, nd⟩) (BindsTo.of_eq (by rfl)) (locs (by rfl)) (by rfl) (by rfl) (by rfl) (by decide) ?_
  intro g L h₁ tk S₀ hg kg kg' k₁ R'
  have SS := S₀.congr (ml244 (.ref x))
  obtain ⟨ox, ex, ix⟩ := hx
  have gx : g.get? x = some ox := kg x ox (fun q => xd (List.mem_singleton.mp q)) ex
  have nS : ∀ {b}, g.get? b = none → b ≠ dx → s.heap.get? b = none := fun {b} e nb => by
    cases q : s.heap.get? b with
    | none => rfl
    | some o => rw [kg b o (fun q => nb (List.mem_singleton.mp q)) q] at e; cases e
  refine x_setattr ?_ (by rfl)
  repeat (first | tbr_iter "zst" | (with_reducible first|refine lo244_self ‹_› ?_))
  refine r_newList ?_ (by exact Nat.le_of_ble_eq_true rfl)
  intro h2 a0 k2 ea0 e2
  have f0 := SS.fresh
  have S2 := (SS.keeps k2).add (P := isStrs []) ⟨_, e2, [], 0, .nil, rfl⟩ (ea0 ▸ f0.2.1) (ea0 ▸ f0.1)
  have d0 : dx ≠ a0 := fun q => f0.2.2 _ (.head _) (q.trans ea0)
  repeat (first | tbr_iter "zst" | (with_reducible first|refine lo244_self ‹_› ?_))
  refine u_set (pre := [(a0, isStrs [])]) (post := []) S2 (by simp; exact fun q => d0 q.symm) ⟨ox, S2.F.keep _ _ gx, ix⟩ (sa254 _) (po254 _) (ta254_assigned _) (hd254 _) (by simp) ?_
  intro h3 tk3 S3
  refine x_setattr ?_ (by with_unfolding_all rfl)
  repeat (first | tbr_iter "zst" | (with_reducible first|refine lo244_self ‹_› ?_))
  refine r_newList ?_ (by exact Nat.le_of_ble_eq_true rfl)
  intro h4 a1 k4 ea1 e4
  have f1 := S3.fresh
  have S4 := (S3.keeps k4).add (P := isStrs []) ⟨_, e4, [], 0, .nil, rfl⟩ (ea1 ▸ f1.2.1) (ea1 ▸ f1.1)
  have d1 : dx ≠ a1 := fun q => f1.2.2 _ (.tail _ (.head _)) (q.trans ea1)
  have n01 : a0 ≠ a1 := fun q => f1.2.2 _ (.head _) (q.trans ea1)
  repeat (first | tbr_iter "zst" | (with_reducible first|refine lo244_self ‹_› ?_))
  refine u_set (pre := [(a1, isStrs []), (a0, isStrs [])]) (post := []) S4 (by simp; exact ⟨fun q => d1 q.symm, fun q => d0 q.symm⟩) ⟨ox, S4.F.keep _ _ gx, ix⟩ (sa254 _) (po254 _) (ta254_told_local _) (hd254 _) (Nat.le_trans putF_len (by simp)) ?_
  intro h5 tk5 S5
  refine x_setattr ?_ (by with_unfolding_all rfl)
  repeat (first | tbr_iter "zst" | (with_reducible first|refine lo244_self ‹_› ?_))
  refine r_newList ?_ (by exact Nat.le_of_ble_eq_true rfl)
  intro h6 a2 k6 ea2 e6
  have f2 := S5.fresh
  have S6 := (S5.keeps k6).add (P := isStrs []) ⟨_, e6, [], 0, .nil, rfl⟩ (ea2 ▸ f2.2.1) (ea2 ▸ f2.1)
  have d2 : dx ≠ a2 := fun q => f2.2.2 _ (.tail _ (.tail _ (.head _))) (q.trans ea2)
  have n12 : a1 ≠ a2 := fun q => f2.2.2 _ (.head _) (q.trans ea2)
  have n02 : a0 ≠ a2 := fun q => f2.2.2 _ (.tail _ (.head _)) (q.trans ea2)
  repeat (first | tbr_iter "zst" | (with_reducible first|refine lo244_self ‹_› ?_))
  refine u_set (pre := [(a2, isStrs []), (a1, isStrs []), (a0, isStrs [])]) (post := []) S6 (by simp; exact ⟨fun q => d2 q.symm, fun q => d1 q.symm, fun q => d0 q.symm⟩) ⟨ox, S6.F.keep _ _ gx, ix⟩ (sa254 _) (po254 _) (ta254_told_global _) (hd254 _) (Nat.le_trans putF_len (Nat.succ_le_succ (Nat.le_trans putF_len (by simp)))) ?_
  intro h7 tk7 S7
  repeat (first | tbr_iter "zst" | (with_reducible first|refine lo244_self ‹_› ?_))
  show InitK s [dx] _ (.ok (.ret .none)) (up s h7 tk7)
  refine ⟨rfl, h7, tk7, rfl, fun b o nb e => S7.F.keep b o (kg b o nb e), a0, a1, a2, ⟨n01, n02, n12⟩, fun p hp => ?_, ?_⟩
  · rcases List.mem_cons.mp hp with rfl | hp
    · have := S7.N _ (.tail _ (.tail _ (.head _))); exact ⟨this.1, nS this.2.2 (fun q => d0 q.symm)⟩
    · rcases List.mem_cons.mp hp with rfl | hp
      · have := S7.N _ (.tail _ (.head _)); exact ⟨this.1, nS this.2.2 (fun q => d1 q.symm)⟩
      · rw [List.mem_singleton.mp hp]
        have := S7.N _ (.head _); exact ⟨this.1, nS this.2.2 (fun q => d2 q.symm)⟩
  · exact (S7.N _ (.tail _ (.tail _ (.tail _ (.head _))))).1

theorem ms_put (P : Params) : findIn (KK P) (.ref 167) "put" = some (some (.ref 164)) := by kernel_rfl
theorem ms_told (P : Params) : findIn (KK P) (.ref 167) "told" = some (some (.ref 157)) := by kernel_rfl
theorem ms_look (P : Params) : findIn (KK P) (.ref 167) "look" = some (some (.ref 150)) := by kernel_rfl
theorem if_put (P : Params) : isFn (KK P) (.ref 164) = true := by kernel_rfl
theorem if_told (P : Params) : isFn (KK P) (.ref 157) = true := by kernel_rfl
theorem if_look (P : Params) : isFn (KK P) (.ref 150) = true := by kernel_rfl
theorem pg_put (P : Params) : plainGet (KK P) 167 "put" = true := by kernel_rfl
theorem pg_told (P : Params) : plainGet (KK P) 167 "told" = true := by kernel_rfl
theorem pg_look (P : Params) : plainGet (KK P) 167 "look" = true := by kernel_rfl
noncomputable def flds (n0 n1 n2 : String) (a0 a1 a2 : Addr) : List (Str × Value) := [(S n0, .ref a0), (S n1, .ref a1), (S n2, .ref a2)]
/-- a Names or a Bound -/
noncomputable def Holder (C : Addr) (n0 n1 n2 : String) (h : Heap) (x a0 a1 a2 : Addr) : Prop := ∃ dx, Has h (x, isInst C dx) ∧ Has h (dx, isFields (flds n0 n1 n2 a0 a1 a2))
theorem Holder.mono {C x a0 a1 a2 : Addr} {n0 n1 n2 : String} {h h' : Heap} (H : Holder C n0 n1 n2 h x a0 a1 a2) (k : h.StaysIn h') : Holder C n0 n1 n2 h' x a0 a1 a2 := by
  obtain ⟨dx, ⟨o, e, p⟩, ⟨o', e', p'⟩⟩ := H
  exact ⟨dx, ⟨o, k _ _ e, p⟩, ⟨o', k _ _ e', p'⟩⟩
theorem listAt {a0 a1 a2 b : Addr} {ls : Ls} {h : Heap} (H : ∀ p ∈ L3 a0 a1 a2 ls, Has h p) (hb : b ∈ [a0, a1, a2]) : ∃ o, h.get? b = some o ∧ o.cls = .type "list" := by
  rcases List.mem_cons.mp hb with rfl | hb
  · obtain ⟨vs, n, _, e⟩ := (H _ (.head _)).strs; exact ⟨_, e, rfl⟩
  · rcases List.mem_cons.mp hb with rfl | hb
    · obtain ⟨vs, n, _, e⟩ := (H _ (.tail _ (.head _))).strs; exact ⟨_, e, rfl⟩
    · rw [List.mem_singleton.mp hb]; obtain ⟨vs, n, _, e⟩ := (H _ (.tail _ (.tail _ (.head _)))).strs; exact ⟨_, e, rfl⟩
theorem Holder.but {C x a0 a1 a2 : Addr} {n0 n1 n2 : String} {h h' : Heap} {ls : Ls} (H : Holder C n0 n1 n2 h x a0 a1 a2) (HL : ∀ p ∈ L3 a0 a1 a2 ls, Has h p) (k : ∀ b o, b ∉ [a0, a1, a2] → h.get? b = some o → h'.get? b = some o) : Holder C n0 n1 n2 h' x a0 a1 a2 := by
  obtain ⟨dx, ⟨o, e, p⟩, ⟨o', e', p'⟩⟩ := H
  refine ⟨dx, ⟨o, k _ _ (fun q => ?_) e, p⟩, ⟨o', k _ _ (fun q => ?_) e', p'⟩⟩
  · obtain ⟨o2, e2, c⟩ := listAt HL q
    rw [show h.get? x = some o from e] at e2; cases e2
    rw [show o = instObj C dx from p] at c; cases c
  · obtain ⟨o2, e2, c⟩ := listAt HL q
    rw [show h.get? dx = some o' from e'] at e2; cases e2
    obtain ⟨es, n, q2, _⟩ := p'
    rw [q2] at c; exact absurd (Value.type.inj c) (by decide)
theorem u_putk {w : World} {A : Around} {s : Shared} {g h : Heap} {L a0 a1 a2 : Addr} {l : LM} {E : Value → Shared → Prop} {Q : Value → Shared → Prop} {tk : Nat} {t : Sem Value} {ls : Ls} {ns : List Str} {k : Kd} {a : Addr} (N : Ne3 a0 a1 a2) (SS : St w g L l (L3 a0 a1 a2 ls) h) (ha : a = (match k with | .a => a0 | .l => a1 | .g => a2))
    (sp : wpAny (model PW w) A t (Ret (up s h tk) [a] fun _ h' => Has h' (a, isStrs (putO (match k with | .a => ls.1 | .l => ls.2.1 | .g => ls.2.2) ns))) NoE (up s h tk))
    (q : ∀ r h' tk', St w g L l (L3 a0 a1 a2 (evt ls (k, ns))) h' → (∀ b o, b ∉ [a0, a1, a2] → h.get? b = some o → h'.get? b = some o) → Q r (up s h' tk')) : (KK w.params).In (up s h tk).heap ∧ wpAny (model PW w) A t Q E (up s h tk) := by
  refine ⟨SS.kin, r_use sp fun r h' tk' kk x => ?_⟩
  subst ha
  cases k with
  | a => exact q r h' tk' (SS.n0 N kk x) fun b o nb e => kk b o (fun q => nb (by rw [List.mem_singleton.mp q]; exact .head _)) e
  | l => exact q r h' tk' (SS.n1 N kk x) fun b o nb e => kk b o (fun q => nb (by rw [List.mem_singleton.mp q]; exact .tail _ (.head _))) e
  | g => exact q r h' tk' (SS.n2 N kk x) fun b o nb e => kk b o (fun q => nb (by rw [List.mem_singleton.mp q]; exact .tail _ (.tail _ (.head _)))) e

section
variable {w : World} {A : Around} {s : Shared} {h₀ : Heap}
noncomputable abbrev NamesAt := Holder 167 "assigned" "locals" "globals"
/-- self.put, up to its arguments -/
theorem callWith_put {A : Around} {E : Value → Shared → Prop} {s : Shared} {env : Env} {pos : Pos} {f : Addr} {first : List Value} {e : Expr} {rest : List Expr} {Q : Value → Shared → Prop} (X : (KK w.params).In s.heap) (hk : keepIn (KK w.params) (.ref f) = true)
    (he : starEach (e :: rest) env = (false, eval e env) :: starEach rest env) (hplain : (backTo pos (starEach rest env)).any (·.1) = false)
    (h : wpAny (model PW w) A (spliced (backTo pos (starEach (e :: rest) env))) (fun vs s₁ => (KK w.params).In s₁.heap ∧ wpAny (model PW w) A (call (.ref f) (first ++ vs)) Q E s₁) E s) :
    wpAny (model PW w) A (callWith pos (.ref f) first (backTo pos (starEach (e :: rest) env)) []) Q E s := callWith_K X hk h he hplain
theorem sp_told {v : Value} {x a0 a1 a2 : Addr} {b : Bool} {z : Str} {t : T} {ls : Ls} (R : Room 5 A) (B : Bs w h₀) (k₀ : h₀.StaysIn s.heap) (ht : TreeAt s.heap v (.node (wrd b) [t])) (htt : t = .sym z ∨ t = .node (S "=") [.sym z, .int])
    (hx : NamesAt s.heap x a0 a1 a2) (hL : ∀ p ∈ L3 a0 a1 a2 ls, Has s.heap p ∧ h₀.get? p.1 = none) (N : Ne3 a0 a1 a2) (G : Gds ls) :
    wpAny (model PW w) A (call (.ref 157) [.ref x, v]) (Ret s [a0, a1, a2] fun _ h' => ∀ p ∈ L3 a0 a1 a2 (evt ls (kd b, [z])), Has h' p) NoE s := by
  refine en157 R B k₀ (L3 a0 a1 a2 ls) hL ?_
  intro g L h₁ tk SS hg kg kg' k₁ R'
  have ht' := ht.kg kg (noTup_L3 fun p hp => (hL p hp).1)
  have hx' := hx.but (fun p hp => (hL p hp).1) kg
  cases ht' with
  | @node at_ p _ _ th vs _ h1 h2 h3 =>
  cases h3 with
  | @cons v1 _ _ _ t1 h3 =>
  cases h3
  refine x_cons ?_
  refine r_for ?_ (by intro x; with_unfolding_all rfl)
  have j1 := h1.keeps SS.F.keep
  repeat (first | tbr_iter "zst" | (with_reducible first|refine lo157_self ‹_› ?_|refine lo157_tree ‹_› ?_|refine lo157_place ‹_› ?_|refine lo157_names ‹_› ?_|refine lo157_ASSIGNS ‹_› ?_|refine ca157_targets_of ‹_› (by with_unfolding_all rfl) (by with_unfolding_all rfl) ?_ (by with_unfolding_all rfl)|refine lo157_targets_of ‹_› ?_) | tbr_iter "zit")
  refine ⟨h₁, _, [p], 1, _, rfl, IterOf.tup R'.1 (h2.keeps SS.F.keep), fun I hI => ?_⟩
  have IL : I ≠ L := fun q => SS.low (q ▸ hI)
  obtain ⟨op, ep, cp, np, dp⟩ := id h2
  have pL : p ≠ L := fun q => by have := SS.gL; rw [← q, ep] at this; cases this
  have nW : ∀ b ∈ [I, p], b ∉ [a0, a1, a2] := by
    intro b hb q
    obtain ⟨o, e, c⟩ := listAt (fun p hp => (SS.N p hp).1) q
    rcases List.mem_cons.mp hb with rfl | hb
    · rw [hI] at e; cases e
    · rw [List.mem_singleton.mp hb, SS.F.keep _ _ ep] at e; cases e; rw [cp] at c; exact absurd (Value.type.inj c) (by decide)
  have nL : ∀ b ∈ [I, p], b ≠ L := by
    intro b hb
    rcases List.mem_cons.mp hb with rfl | hb
    · exact IL
    · rw [List.mem_singleton.mp hb]; exact pL
  refine ⟨fun i h => ∃ o1 o2, St w g L (V157 (some (.ref x)) (some (.ref at_)) o1 o2) (L3 a0 a1 a2 (if i = 0 then ls else evt ls (kd b, [z]))) h, fun h2 k2 => ⟨none, none, SS.keeps k2⟩, ?_, ?_, ?_⟩
  · rintro i h h' ⟨o1, o2, J⟩ hT k
    refine ⟨o1, o2, SS.off (X := [I]) (fun i hi => by rw [List.mem_singleton.mp hi]; exact hI) J (fun q hq => ?_) k⟩
    rcases List.mem_cons.mp hq with rfl | hq
    · exact ⟨_, .head _⟩
    · rcases List.mem_cons.mp hq with rfl | hq
      · exact ⟨_, .tail _ (.head _)⟩
      · rw [List.mem_singleton.mp hq]; exact ⟨_, .tail _ (.tail _ (.head _))⟩
  · rintro i v h tk14 hi hP ⟨o1, o2, J⟩ hex
    obtain rfl : i = 0 := by omega
    cases hP
    rw [if_pos rfl] at J
    refine so157_place J ?_
    intro h3 tk3 S3 k3
    refine x_asg ?_ (by with_unfolding_all rfl)
    refine r_mid (s := up s h₁ tk) (fun v h4 => ∃ b', v = .ref b' ∧ h3.get? b' = none ∧ Has h4 (b', isStrs [z]) ∧ h3.StaysIn h4 ∧ St w g L (V157 (some (.ref x)) (some (.ref at_)) (some v1) o2) (L3 a0 a1 a2 ls) h4) ?_ ?_
    · rcases htt with rfl | rfl
      · cases t1 with
        | sym i1 =>
        have j2 := i1.keeps S3.F.keep
        repeat (first | tbr_iter "zst" | (with_reducible first|refine lo157_self ‹_› ?_|refine lo157_tree ‹_› ?_|refine lo157_place ‹_› ?_|refine lo157_names ‹_› ?_|refine lo157_ASSIGNS ‹_› ?_|refine ca157_targets_of ‹_› (by with_unfolding_all rfl) (by with_unfolding_all rfl) ?_ (by with_unfolding_all rfl)|refine lo157_targets_of ‹_› ?_) | tbr_iter "zit" | tbr_iter "zif")
        refine u_pure S3 (sp_to_sym (R'.le (by decide)) B (fun b o e => S3.F.keep b o (hg b o e)) ((TreeAt.sym i1).mono (TupKeep.of_stays S3.F.keep))) ?_
        rintro r h5 tk5 k5 S5 ⟨b', rfl, hb, x5⟩
        repeat (first | tbr_iter "zst")
        exact ⟨_, _, rfl, b', rfl, hb, x5, k5, S5⟩
      · cases t1 with
        | node i1 i2 i3 =>
        cases i3 with
        | cons s1 i3 =>
        cases i3 with
        | cons s2 i3 =>
        cases i3
        have j2 := i1.keeps S3.F.keep
        have j3 := i2.keeps S3.F.keep
        repeat (first | tbr_iter "zst" | (with_reducible first|refine lo157_self ‹_› ?_|refine lo157_tree ‹_› ?_|refine lo157_place ‹_› ?_|refine lo157_names ‹_› ?_|refine lo157_ASSIGNS ‹_› ?_|refine ca157_targets_of ‹_› (by with_unfolding_all rfl) (by with_unfolding_all rfl) ?_ (by with_unfolding_all rfl)|refine lo157_targets_of ‹_› ?_) | tbr_iter "zit" | tbr_iter "zif")
        obtain ⟨us1, n1, f1, g1⟩ := g50 w.params
        refine c_int (tup_glob S3.kin f1) g1 ?_
        repeat (first | tbr_iter "zst" | (with_reducible first|refine lo157_self ‹_› ?_|refine lo157_tree ‹_› ?_|refine lo157_place ‹_› ?_|refine lo157_names ‹_› ?_|refine lo157_ASSIGNS ‹_› ?_|refine ca157_targets_of ‹_› (by with_unfolding_all rfl) (by with_unfolding_all rfl) ?_ (by with_unfolding_all rfl)|refine lo157_targets_of ‹_› ?_) | tbr_iter "zit" | tbr_iter "zif")
        refine u_pure S3 (sp_to_sym (R'.le (by decide)) B (fun b o e => S3.F.keep b o (hg b o e)) (s1.mono (TupKeep.of_stays S3.F.keep))) ?_
        rintro r h5 tk5 k5 S5 ⟨b', rfl, hb, x5⟩
        repeat (first | tbr_iter "zst")
        exact ⟨_, _, rfl, b', rfl, hb, x5, k5, S5⟩
    rintro v h4 tk4 ⟨b', rfl, hb, x4, k4, S4⟩
    refine so157_names S4 ?_
    intro h5 tk5 S5 k5
    have hx5 := hx'.mono S5.F.keep
    obtain ⟨dx, hxi, hxf⟩ := id hx5
    have j1 := h1.keeps S5.F.keep
    have bL : b' ≠ L := fun q => by have := S3.low; rw [← q] at this; exact this hb
    have x5 : Has h5 (b', isStrs [z]) := let ⟨o, e, y⟩ := x4; ⟨o, k5 _ _ bL e, y⟩
    obtain ⟨us, m, hus, eb⟩ := x5.strs
    have bW : b' ∉ [a0, a1, a2] := fun q => by
      obtain ⟨o, e, c⟩ := listAt (fun p hp => (S3.N p hp).1) q
      rw [hb] at e; cases e
    repeat (first | tbr_iter "zst" | (with_reducible first|refine lo157_self ‹_› ?_|refine lo157_tree ‹_› ?_|refine lo157_place ‹_› ?_|refine lo157_names ‹_› ?_|refine lo157_ASSIGNS ‹_› ?_|refine ca157_targets_of ‹_› (by with_unfolding_all rfl) (by with_unfolding_all rfl) ?_ (by with_unfolding_all rfl)|refine lo157_targets_of ‹_› ?_) | tbr_iter "zcb")
    refine u_meth S5 hxi hxf (pg_put _) (ms_put _) (if_put _) rfl ?_
    refine callWith_put S5.kin (kp164 _) (by with_unfolding_all rfl) (by with_unfolding_all rfl) ?_
    have j5 := h1.keeps S5.F.keep
    cases b with
    | true =>
      repeat (first | tbr_iter "zst" | (with_reducible first|refine lo157_self ‹_› ?_|refine lo157_tree ‹_› ?_|refine lo157_place ‹_› ?_|refine lo157_names ‹_› ?_|refine lo157_ASSIGNS ‹_› ?_|refine ca157_targets_of ‹_› (by with_unfolding_all rfl) (by with_unfolding_all rfl) ?_ (by with_unfolding_all rfl)|refine lo157_targets_of ‹_› ?_) | tbr_iter "zcb" | tbr_iter "zit" | tbr_iter "zif")
      refine u_get S5 hxi hxf (ga167_locals _) (hd167 _) (fa167_locals _) rfl rfl rfl ?_
      intro tk6
      repeat (first | tbr_iter "zst" | (with_reducible first|refine lo157_self ‹_› ?_|refine lo157_tree ‹_› ?_|refine lo157_place ‹_› ?_|refine lo157_names ‹_› ?_|refine lo157_ASSIGNS ‹_› ?_|refine ca157_targets_of ‹_› (by with_unfolding_all rfl) (by with_unfolding_all rfl) ?_ (by with_unfolding_all rfl)|refine lo157_targets_of ‹_› ?_) | tbr_iter "zcb")
      refine u_putk (k := .l) (ns := [z]) N S5 rfl (sp_put (R'.le (by decide)) B (fun b o e => S5.F.keep b o (hg b o e)) (S5.N _ (.tail _ (.head _))).1 (hL _ (.tail _ (.head _))).2 (b := b') ⟨_, eb, rfl, _, rfl⟩ hus (fun q => bW (q ▸ by simp)) (by have := G.2.1.len; show ls.2.1.length + 1 ≤ 9000; omega)) ?_
      intro r h7 tk7 S7 k7
      repeat (first | tbr_iter "zst")
      refine forK_next (fun c hc o e => k7 c o (nW c hc) (k5 c o (nL c hc) (k4 c o (k3 c o (nL c hc) e)))) ⟨_, _, by rw [if_neg (by decide)]; exact S7⟩
    | false =>
      repeat (first | tbr_iter "zst" | (with_reducible first|refine lo157_self ‹_› ?_|refine lo157_tree ‹_› ?_|refine lo157_place ‹_› ?_|refine lo157_names ‹_› ?_|refine lo157_ASSIGNS ‹_› ?_|refine ca157_targets_of ‹_› (by with_unfolding_all rfl) (by with_unfolding_all rfl) ?_ (by with_unfolding_all rfl)|refine lo157_targets_of ‹_› ?_) | tbr_iter "zcb" | tbr_iter "zit" | tbr_iter "zif")
      refine u_get S5 hxi hxf (ga167_globals _) (hd167 _) (fa167_globals _) rfl rfl rfl ?_
      intro tk6
      repeat (first | tbr_iter "zst" | (with_reducible first|refine lo157_self ‹_› ?_|refine lo157_tree ‹_› ?_|refine lo157_place ‹_› ?_|refine lo157_names ‹_› ?_|refine lo157_ASSIGNS ‹_› ?_|refine ca157_targets_of ‹_› (by with_unfolding_all rfl) (by with_unfolding_all rfl) ?_ (by with_unfolding_all rfl)|refine lo157_targets_of ‹_› ?_) | tbr_iter "zcb")
      refine u_putk (k := .g) (ns := [z]) N S5 rfl (sp_put (R'.le (by decide)) B (fun b o e => S5.F.keep b o (hg b o e)) (S5.N _ (.tail _ (.tail _ (.head _)))).1 (hL _ (.tail _ (.tail _ (.head _)))).2 (b := b') ⟨_, eb, rfl, _, rfl⟩ hus (fun q => bW (q ▸ by simp)) (by have := G.2.2.len; show ls.2.2.length + 1 ≤ 9000; omega)) ?_
      intro r h7 tk7 S7 k7
      repeat (first | tbr_iter "zst")
      refine forK_next (fun c hc o e => k7 c o (nW c hc) (k5 c o (nL c hc) (k4 c o (k3 c o (nL c hc) e)))) ⟨_, _, by rw [if_neg (by decide)]; exact S7⟩
  · rintro h tk14 ⟨o1, o2, J⟩
    rw [if_neg (by decide)] at J
    repeat (first | tbr_iter "zst")
    exact r_ret J kg fun p hp => (J.N p hp).1
end

section
variable {w : World} {A : Around} {s : Shared} {h₀ : Heap}
theorem sp_def {v : Value} {x : Str} {b : T} (R : Room 2 A) (B : Bs w h₀) (k₀ : h₀.StaysIn s.heap) (ht : TreeAt s.heap v (.node (S "function") [.node (S "call") [.sym x, .sym (S "z")], b])) :
    wpAny (model PW w) A (call (.ref 192) [v]) (Ret s [] (NewStrs s [x])) NoE s := by
  refine en192 R B k₀ [] (fun p hp => nomatch hp) ?_
  intro g L h₁ tk SS hg kg kg' k₁ R'
  have ht' := ht.kg kg noTup_nil
  cases ht' with
  | node h1 h2 h3 =>
  cases h3 with
  | cons t1 h3 =>
  cases h3 with
  | cons t2 h3 =>
  cases h3
  have T1 := t1
  cases t1 with
  | @node ac pc _ _ _ _ _ i1 i2 i3 =>
  cases i3 with
  | cons s1 i3 =>
  cases i3 with
  | cons s2 i3 =>
  cases i3
  have S1 := s1
  cases s1 with
  | sym z1 =>
  have j1 := h1.keeps SS.F.keep
  have j2 := h2.keeps SS.F.keep
  refine x_asg ?_ (by rfl)
  repeat (first | tbr_iter "zst" | (with_reducible first|refine lo192_tree ‹_› ?_|refine lo192_head ‹_› ?_|refine ca192_is_expr ‹_› (by with_unfolding_all rfl) (by with_unfolding_all rfl) ?_ (by with_unfolding_all rfl)|refine lo192_is_expr ‹_› ?_|refine ca192_is_sym ‹_› (by with_unfolding_all rfl) (by with_unfolding_all rfl) ?_ (by with_unfolding_all rfl)|refine lo192_is_sym ‹_› ?_) | tbr_iter "zit" | tbr_iter "zif")
  refine so192_head SS ?_
  intro h4 tk4 S4 k4
  refine x_cons ?_
  refine r_while (fun _ h => St w g L (V28 (some _) (some (.ref ac))) [] h) ?_ 0 S4
  intro n h5 tk5 S5
  have j3 := i1.keeps S5.F.keep
  repeat (first | tbr_iter "zst" | (with_reducible first|refine lo192_tree ‹_› ?_|refine lo192_head ‹_› ?_|refine ca192_is_expr ‹_› (by with_unfolding_all rfl) (by with_unfolding_all rfl) ?_ (by with_unfolding_all rfl)|refine lo192_is_expr ‹_› ?_|refine ca192_is_sym ‹_› (by with_unfolding_all rfl) (by with_unfolding_all rfl) ?_ (by with_unfolding_all rfl)|refine lo192_is_sym ‹_› ?_) | tbr_iter "zit" | tbr_iter "zif")
  refine u_tup S5 (by simp) ?_
  intro a6 h6 tk6 ht6 k6 S6
  refine c_int ht6 (by repeat (first | exact StrsAre.nil | apply StrsAre.cons)) ?_
  repeat (first | tbr_iter "zst" | (with_reducible first|refine lo192_tree ‹_› ?_|refine lo192_head ‹_› ?_|refine ca192_is_expr ‹_› (by with_unfolding_all rfl) (by with_unfolding_all rfl) ?_ (by with_unfolding_all rfl)|refine lo192_is_expr ‹_› ?_|refine ca192_is_sym ‹_› (by with_unfolding_all rfl) (by with_unfolding_all rfl) ?_ (by with_unfolding_all rfl)|refine lo192_is_sym ‹_› ?_) | tbr_iter "zif")
  refine u_pure S6 (sp_is_expr (R'.le (by decide)) B (fun b o e => S6.F.keep b o (hg b o e)) (T1.mono (TupKeep.of_stays S6.F.keep))) ?_
  rintro r h7 tk7 k7 S7 rfl
  repeat (first | tbr_iter "zst")
  refine ite_neg (fun q => nomatch q) ?_
  have j4 := i2.keeps S7.F.keep
  have j5 := i1.keeps S7.F.keep
  repeat (first | tbr_iter "zst" | (with_reducible first|refine lo192_tree ‹_› ?_|refine lo192_head ‹_› ?_|refine ca192_is_expr ‹_› (by with_unfolding_all rfl) (by with_unfolding_all rfl) ?_ (by with_unfolding_all rfl)|refine lo192_is_expr ‹_› ?_|refine ca192_is_sym ‹_› (by with_unfolding_all rfl) (by with_unfolding_all rfl) ?_ (by with_unfolding_all rfl)|refine lo192_is_sym ‹_› ?_) | tbr_iter "zit" | tbr_iter "zif")
  refine u_pure S7 (sp_is_sym (R'.le (by decide)) B (fun b o e => S7.F.keep b o (hg b o e)) (S1.mono (TupKeep.of_stays S7.F.keep))) ?_
  rintro r h8 tk8 k8 S8 rfl
  repeat (first | tbr_iter "zst")
  refine ite_neg (fun q => nomatch q) ?_
  have j4 := i2.keeps S8.F.keep
  have j5 := i1.keeps S8.F.keep
  have j6 := z1.keeps S8.F.keep
  repeat (first | tbr_iter "zst" | (with_reducible first|refine lo192_tree ‹_› ?_|refine lo192_head ‹_› ?_|refine ca192_is_expr ‹_› (by with_unfolding_all rfl) (by with_unfolding_all rfl) ?_ (by with_unfolding_all rfl)|refine lo192_is_expr ‹_› ?_|refine ca192_is_sym ‹_› (by with_unfolding_all rfl) (by with_unfolding_all rfl) ?_ (by with_unfolding_all rfl)|refine lo192_is_sym ‹_› ?_) | tbr_iter "zit" | tbr_iter "zif")
  refine r_newList ?_ (by exact Nat.le_of_ble_eq_true rfl)
  intro h9 a k9 ea e9
  exact r_ret (S8.keeps k9) kg (newStrs_of S8 kg ea e9 (.cons _ _ .nil))
end

section
variable {w : World} {A : Around} {s : Shared} {g h h' : Heap} {L a0 a1 a2 lf : Addr} {l : LM} {tk : Nat} {E : Value → Shared → Prop} {Q : Value → Shared → Prop}
theorem Room.units {n : Nat} (R : Room n A) : A.units < cLine := by
  have := R.2.2.1
  have c : 9000 < cLine := by decide
  omega
theorem c_ne_nil {n : Nat} {a b : Addr} {vs : List Value} (R : Room n A) (ha : h.IsList a vs.toArray) (hb : h.IsList b ([] : List Value).toArray) (q : Q (.bool (!vs.isEmpty)) (up s h tk)) : wpAny (model PW w) A (compareOp .NotEq (.ref a) (.ref b)) Q E (up s h tk) := by
  cases vs with
  | nil =>
    exact PySem.SeqAt.RcNeAt.lists (s := up s h tk) (e := fun _ => true) ha hb rfl R.units (fun j h1 => absurd h1 (Nat.not_lt_zero _)) _ _ _ _ q
  | cons v r =>
    exact PySem.SeqAt.RcNeAt.lists_lengths (s := up s h tk) ha hb (by simp) R.units _ _ _ _ q
theorem noTup_pl {h : Heap} {a : Addr} {vs : List Value} (x : Has h (a, isPL vs)) : NoTup h [a] := fun b hb o e q => by
  obtain ⟨o', e', n, rfl⟩ := x
  rw [List.mem_singleton.mp hb, show h.get? a = some _ from e'] at e
  cases e
  exact absurd (Value.type.inj q.1) (by decide)
theorem St.call3 {P : OP} {ls ls' : Ls} (SS : St w g L l ((lf, P) :: L3 a0 a1 a2 ls) h) (nl : lf ∉ [a0, a1, a2]) (k : ∀ b o, b ∉ [a0, a1, a2] → h.get? b = some o → h'.get? b = some o) (x : ∀ p ∈ L3 a0 a1 a2 ls', Has h' p) :
    St w g L l ((lf, P) :: L3 a0 a1 a2 ls') h' := by
  refine SS.but k (fun b hb => ?_) fun p hp => ?_
  · rcases List.mem_cons.mp hb with rfl | hb
    · exact (SS.N _ (.tail _ (.head _))).2
    · rcases List.mem_cons.mp hb with rfl | hb
      · exact (SS.N _ (.tail _ (.tail _ (.head _)))).2
      · rw [List.mem_singleton.mp hb]; exact (SS.N _ (.tail _ (.tail _ (.tail _ (.head _))))).2
  · rcases List.mem_cons.mp hp with rfl | hp
    · exact .inl ⟨.head _, nl⟩
    · refine .inr ⟨?_, x p hp⟩
      rcases List.mem_cons.mp hp with rfl | hp
      · exact .head _
      · rcases List.mem_cons.mp hp with rfl | hp
        · exact .tail _ (.head _)
        · rw [List.mem_singleton.mp hp]; exact .tail _ (.tail _ (.head _))
theorem put3 {ls : Ls} {ns : List Str} {k : Kd} {a : Addr} (N : Ne3 a0 a1 a2) (H : ∀ p ∈ L3 a0 a1 a2 ls, Has h p) (ha : a = (match k with | .a => a0 | .l => a1 | .g => a2)) (kk : ∀ b o, b ∉ [a] → h.get? b = some o → h'.get? b = some o)
    (x : Has h' (a, isStrs (putO (match k with | .a => ls.1 | .l => ls.2.1 | .g => ls.2.2) ns))) : (∀ p ∈ L3 a0 a1 a2 (evt ls (k, ns)), Has h' p) ∧ ∀ b o, b ∉ [a0, a1, a2] → h.get? b = some o → h'.get? b = some o := by
  have kp : ∀ {b : Addr} {P : OP}, b ≠ a → Has h (b, P) → Has h' (b, P) := fun nb ⟨o, e, p⟩ => ⟨o, kk _ _ (fun q => nb (List.mem_singleton.mp q)) e, p⟩
  have H0 := H _ (.head _)
  have H1 := H _ (.tail _ (.head _))
  have H2 := H _ (.tail _ (.tail _ (.head _)))
  subst ha
  cases k with
  | a =>
    refine ⟨fun p hp => ?_, fun b o nb e => kk b o (fun q => nb (by rw [List.mem_singleton.mp q]; exact .head _)) e⟩
    rcases List.mem_cons.mp hp with rfl | hp
    · exact x
    · rcases List.mem_cons.mp hp with rfl | hp
      · exact kp N.n01.symm H1
      · rw [List.mem_singleton.mp hp]; exact kp N.n02.symm H2
  | l =>
    refine ⟨fun p hp => ?_, fun b o nb e => kk b o (fun q => nb (by rw [List.mem_singleton.mp q]; exact .tail _ (.head _))) e⟩
    rcases List.mem_cons.mp hp with rfl | hp
    · exact kp N.n01 H0
    · rcases List.mem_cons.mp hp with rfl | hp
      · exact x
      · rw [List.mem_singleton.mp hp]; exact kp N.n12.symm H2
  | g =>
    refine ⟨fun p hp => ?_, fun b o nb e => kk b o (fun q => nb (by rw [List.mem_singleton.mp q]; exact .tail _ (.tail _ (.head _)))) e⟩
    rcases List.mem_cons.mp hp with rfl | hp
    · exact kp N.n02 H0
    · rcases List.mem_cons.mp hp with rfl | hp
      · exact kp N.n12 H1
      · rw [List.mem_singleton.mp hp]; exact x
end

section
variable {w : World} {A : Around} {s : Shared} {h₀ : Heap}
theorem sp_look {v : Value} {x a0 a1 a2 : Addr} {t : T} {n : Nat} {es : List Ev} {ls : Ls} (R : Room 8 A) (B : Bs w h₀) (k₀ : h₀.StaysIn s.heap) (ht : TreeAt s.heap v t) (hw : Wk n t es)
    (hx : NamesAt s.heap x a0 a1 a2) (hL : ∀ p ∈ L3 a0 a1 a2 ls, Has s.heap p ∧ h₀.get? p.1 = none) (N : Ne3 a0 a1 a2) (G : Gds ls) (hn : n ≤ 600) :
    wpAny (model PW w) A (call (.ref 150) [.ref x, v]) (Ret s [a0, a1, a2] fun _ h' => ∀ p ∈ L3 a0 a1 a2 (run es ls), Has h' p) NoE s := by
  refine en150 R B k₀ (L3 a0 a1 a2 ls) hL ?_
  intro g L h₁ tk SS hg kg kg' k₁ R'
  have ht' := ht.kg kg (noTup_L3 fun p hp => (hL p hp).1)
  have hx' := hx.but (fun p hp => (hL p hp).1) kg
  refine x_asg ?_ (by rfl)
  repeat (first | tbr_iter "zst" | (with_reducible first|refine lo150_self ‹_› ?_|refine lo150_tree ‹_› ?_|refine lo150_left ‹_› ?_|refine lo150_here ‹_› ?_|refine lo150_INNER ‹_› ?_|refine lo150_ASSIGNS ‹_› ?_|refine ca150_targets_of ‹_› (by with_unfolding_all rfl) (by with_unfolding_all rfl) ?_ (by with_unfolding_all rfl)|refine lo150_targets_of ‹_› ?_|refine ca150_defined_by ‹_› (by with_unfolding_all rfl) (by with_unfolding_all rfl) ?_ (by with_unfolding_all rfl)|refine lo150_defined_by ‹_› ?_|refine ca150_own_parts ‹_› (by with_unfolding_all rfl) (by with_unfolding_all rfl) ?_ (by with_unfolding_all rfl)|refine lo150_own_parts ‹_› ?_))
  refine r_newList ?_ (by exact Nat.le_of_ble_eq_true rfl)
  intro h2 lf k2 elf e2
  have fr := SS.fresh
  have nlf : lf ∉ [a0, a1, a2] := fun q => by
    rcases List.mem_cons.mp q with e | q
    · exact fr.2.2 _ (.head _) (e.symm.trans elf)
    · rcases List.mem_cons.mp q with e | q
      · exact fr.2.2 _ (.tail _ (.head _)) (e.symm.trans elf)
      · exact fr.2.2 _ (.tail _ (.tail _ (.head _))) ((List.mem_singleton.mp q).symm.trans elf)
  have S2 := (SS.keeps k2).add (P := isPL [v]) ⟨_, e2, 0, rfl⟩ (elf ▸ fr.2.1) (elf ▸ fr.1)
  refine so150_left S2 ?_
  intro h3 tk3 S3 k3
  have lows : ∀ {cur : Ls} {h : Heap}, (∀ p ∈ L3 a0 a1 a2 cur, Has h p ∧ p.1 ≠ L ∧ g.get? p.1 = none) → ∀ p ∈ L3 a0 a1 a2 cur, Has h p ∧ h₀.get? p.1 = none := fun H p hp => ⟨(H p hp).1, by
    cases q : h₀.get? p.1 with
    | none => rfl
    | some o => have := (H p hp).2.2; rw [hg _ _ q] at this; cases this⟩
  refine x_cons ?_
  refine r_while (fun m h => ∃ vs ts m' fs cur o, TreesAt h vs.reverse ts ∧ Wks m' ts fs ∧ m' ≤ m ∧ m' ≤ 600 ∧ run fs cur = run es ls ∧ Gds cur ∧ St w g L (V150 (some (.ref x)) (some v) (some (.ref lf)) o) ((lf, isPL vs) :: L3 a0 a1 a2 cur) h) ?_ n ⟨[v], [t], n, es, ls, none, .cons (ht'.mono (TupKeep.of_stays S3.F.keep)) .nil, .one hw, Nat.le_refl _, hn, rfl, G, S3⟩
  rintro m h4 tk4 ⟨vs, ts, m', fs, cur, o, hts, hws, hm, hm6, hrun, hG, S4⟩
  repeat (first | tbr_iter "zst" | (with_reducible first|refine lo150_self ‹_› ?_|refine lo150_tree ‹_› ?_|refine lo150_left ‹_› ?_|refine lo150_here ‹_› ?_|refine lo150_INNER ‹_› ?_|refine lo150_ASSIGNS ‹_› ?_|refine ca150_targets_of ‹_› (by with_unfolding_all rfl) (by with_unfolding_all rfl) ?_ (by with_unfolding_all rfl)|refine lo150_targets_of ‹_› ?_|refine ca150_defined_by ‹_› (by with_unfolding_all rfl) (by with_unfolding_all rfl) ?_ (by with_unfolding_all rfl)|refine lo150_defined_by ‹_› ?_|refine ca150_own_parts ‹_› (by with_unfolding_all rfl) (by with_unfolding_all rfl) ?_ (by with_unfolding_all rfl)|refine lo150_own_parts ‹_› ?_))
  refine r_newList ?_ (by exact Nat.le_of_ble_eq_true rfl)
  intro h5 e5 k5 _ ee5
  have S5 := S4.keeps k5
  have zl : vs.length ≤ 600 := by
    have a := hts.length
    have b := hws.len
    rw [List.length_reverse] at a; omega
  refine c_ne_nil R' (S5.N _ (.head _)).1.isPList ⟨_, ee5, rfl, _, rfl⟩ ?_
  repeat (first | tbr_iter "zst")
  rcases List.eq_nil_or_concat vs with rfl | ⟨vs', v1, econ⟩
  · refine ite_neg (fun q => nomatch q) ?_
    cases hts
    cases hws
    repeat (first | tbr_iter "zst")
    refine r_ret S5 kg fun p hp => ?_
    have := (S5.N p (.tail _ (by rw [show cur = run es ls from hrun]; exact hp))).1
    exact this
  rw [List.concat_eq_append] at econ
  subst econ
  refine ite_pos (by cases vs' <;> rfl) ?_
  rw [List.reverse_append] at hts
  cases hts with
  | @cons _ t1 _ ts1 tv htr =>
  cases hws with
  | @cons n1 n2 _ _ es1 fs2 w1 w2 =>
  have np := w1.pos
  refine x_asg ?_ (by with_unfolding_all rfl)
  repeat (first | tbr_iter "zst" | (with_reducible first|refine lo150_self ‹_› ?_|refine lo150_tree ‹_› ?_|refine lo150_left ‹_› ?_|refine lo150_here ‹_› ?_|refine lo150_INNER ‹_› ?_|refine lo150_ASSIGNS ‹_› ?_|refine ca150_targets_of ‹_› (by with_unfolding_all rfl) (by with_unfolding_all rfl) ?_ (by with_unfolding_all rfl)|refine lo150_targets_of ‹_› ?_|refine ca150_defined_by ‹_› (by with_unfolding_all rfl) (by with_unfolding_all rfl) ?_ (by with_unfolding_all rfl)|refine lo150_defined_by ‹_› ?_|refine ca150_own_parts ‹_› (by with_unfolding_all rfl) (by with_unfolding_all rfl) ?_ (by with_unfolding_all rfl)|refine lo150_own_parts ‹_› ?_) | tbr_iter "zcb")
  have nolf : ∀ {cur : Ls}, ∀ p ∈ ([] : Led) ++ L3 a0 a1 a2 cur, p.1 ≠ lf := fun p hp q => by
    rcases List.mem_cons.mp hp with rfl | hp
    · exact nlf (q ▸ .head _)
    · rcases List.mem_cons.mp hp with rfl | hp
      · exact nlf (q ▸ .tail _ (.head _))
      · rw [List.mem_singleton.mp hp] at q; exact nlf (q ▸ .tail _ (.tail _ (.head _)))
  have P5 := (S5.N _ (.head _)).1
  obtain ⟨ol, el, nl, rfl⟩ := id P5
  refine m_method el rfl rfl PySem.F.slot_list_pop PySem.F.type_list_pop ?_
  repeat (first | tbr_iter "zst" | tbr_iter "zcb")
  refine m_pop (vs := vs') (v := v1) el (by rw [List.length_append] at zl; omega) ?_
  intro h6 x6 k6
  have S6 := St.upd (pre := []) (P' := isPL vs') S5 nolf k6 x6
  refine so150_here S6 ?_
  intro h7 tk7 S7 k7
  have tkA : TupKeep h4 h7 := (TupKeep.of_stays k5).trans ((TupKeep.of_but (noTup_pl P5) k6).trans (TupKeep.of_low S6 k7))
  replace tv := tv.mono tkA
  replace htr := htr.mono tkA
  have go : ∀ {h8 : Heap} {tk8 : Nat} {cur' : Ls} {us : List Value} {ts2 : List T} {m2 : Nat} {fs1 : List Ev}, TreesAt h8 (us.reverse) (ts2 ++ ts1) → Wks m2 ts2 fs1 → m2 < n1 → run fs1 cur' = run es1 cur → Gds cur' → St w g L (V150 (some (.ref x)) (some v) (some (.ref lf)) (some v1)) ((lf, isPL us) :: L3 a0 a1 a2 cur') h8 →
      ∃ h' tk m_1, up (up s h3 tk3) h8 tk8 = up (up s h3 tk3) h' tk ∧ m_1 < m ∧ ∃ vs ts m' fs cur o, TreesAt h' vs.reverse ts ∧ Wks m' ts fs ∧ m' ≤ m_1 ∧ m' ≤ 600 ∧ run fs cur = run es ls ∧ Gds cur ∧ St w g L (V150 (some (.ref x)) (some v) (some (.ref lf)) o) ((lf, isPL vs) :: L3 a0 a1 a2 cur) h' := by
    intro h8 tk8 cur' us ts2 m2 fs1 ha hb hc hd he hf
    exact ⟨h8, tk8, m2 + n2, rfl, by omega, us, ts2 ++ ts1, m2 + n2, fs1 ++ fs2, cur', _, ha, hb.append w2, Nat.le_refl _, by omega, by rw [run_append, hd, ← run_append]; exact hrun, he, hf⟩
  have stop : ∀ {h8 : Heap} {tk8 : Nat}, es1 = [] → TreesAt h8 vs'.reverse ts1 → St w g L (V150 (some (.ref x)) (some v) (some (.ref lf)) (some v1)) ((lf, isPL vs') :: L3 a0 a1 a2 cur) h8 → _ := fun {h8 tk8} e1 ha hf => go (tk8 := tk8) (ts2 := []) (m2 := 0) (fs1 := []) ha .nil np (by rw [e1]) hG hf
  refine x_if ?_
  cases t1 with
  | sym z =>
    cases w1
    cases tv with
    | sym i1 =>
    repeat (first | tbr_iter "zst" | (with_reducible first|refine lo150_self ‹_› ?_|refine lo150_tree ‹_› ?_|refine lo150_left ‹_› ?_|refine lo150_here ‹_› ?_|refine lo150_INNER ‹_› ?_|refine lo150_ASSIGNS ‹_› ?_|refine ca150_targets_of ‹_› (by with_unfolding_all rfl) (by with_unfolding_all rfl) ?_ (by with_unfolding_all rfl)|refine lo150_targets_of ‹_› ?_|refine ca150_defined_by ‹_› (by with_unfolding_all rfl) (by with_unfolding_all rfl) ?_ (by with_unfolding_all rfl)|refine lo150_defined_by ‹_› ?_|refine ca150_own_parts ‹_› (by with_unfolding_all rfl) (by with_unfolding_all rfl) ?_ (by with_unfolding_all rfl)|refine lo150_own_parts ‹_› ?_) | tbr_iter "zit" | tbr_iter "zif")
    exact stop rfl htr S7
  | int =>
    cases w1
    cases tv with
    | int i1 =>
    repeat (first | tbr_iter "zst" | (with_reducible first|refine lo150_self ‹_› ?_|refine lo150_tree ‹_› ?_|refine lo150_left ‹_› ?_|refine lo150_here ‹_› ?_|refine lo150_INNER ‹_› ?_|refine lo150_ASSIGNS ‹_› ?_|refine ca150_targets_of ‹_› (by with_unfolding_all rfl) (by with_unfolding_all rfl) ?_ (by with_unfolding_all rfl)|refine lo150_targets_of ‹_› ?_|refine ca150_defined_by ‹_› (by with_unfolding_all rfl) (by with_unfolding_all rfl) ?_ (by with_unfolding_all rfl)|refine lo150_defined_by ‹_› ?_|refine ca150_own_parts ‹_› (by with_unfolding_all rfl) (by with_unfolding_all rfl) ?_ (by with_unfolding_all rfl)|refine lo150_own_parts ‹_› ?_) | tbr_iter "zit" | tbr_iter "zif")
    exact stop rfl htr S7
  | node hd ps =>
    obtain ⟨e0, ts2, m2, fs1, hs, hw', hm2, rfl⟩ := w1.sp
    have TV := tv
    cases tv with
    | @node at_ p _ _ th us0 _ i1 i2 i3 =>
    repeat (first | tbr_iter "zst" | (with_reducible first|refine lo150_self ‹_› ?_|refine lo150_tree ‹_› ?_|refine lo150_left ‹_› ?_|refine lo150_here ‹_› ?_|refine lo150_INNER ‹_› ?_|refine lo150_ASSIGNS ‹_› ?_|refine ca150_targets_of ‹_› (by with_unfolding_all rfl) (by with_unfolding_all rfl) ?_ (by with_unfolding_all rfl)|refine lo150_targets_of ‹_› ?_|refine ca150_defined_by ‹_› (by with_unfolding_all rfl) (by with_unfolding_all rfl) ?_ (by with_unfolding_all rfl)|refine lo150_defined_by ‹_› ?_|refine ca150_own_parts ‹_› (by with_unfolding_all rfl) (by with_unfolding_all rfl) ?_ (by with_unfolding_all rfl)|refine lo150_own_parts ‹_› ?_) | tbr_iter "zit" | tbr_iter "zif")
    obtain ⟨us1, nn1, f1, g1⟩ := g51 w.params
    refine c_int (tup_glob S7.kin f1) g1 ?_
    repeat (first | tbr_iter "zst" | (with_reducible first|refine lo150_self ‹_› ?_|refine lo150_tree ‹_› ?_|refine lo150_left ‹_› ?_|refine lo150_here ‹_› ?_|refine lo150_INNER ‹_› ?_|refine lo150_ASSIGNS ‹_› ?_|refine ca150_targets_of ‹_› (by with_unfolding_all rfl) (by with_unfolding_all rfl) ?_ (by with_unfolding_all rfl)|refine lo150_targets_of ‹_› ?_|refine ca150_defined_by ‹_› (by with_unfolding_all rfl) (by with_unfolding_all rfl) ?_ (by with_unfolding_all rfl)|refine lo150_defined_by ‹_› ?_|refine ca150_own_parts ‹_› (by with_unfolding_all rfl) (by with_unfolding_all rfl) ?_ (by with_unfolding_all rfl)|refine lo150_own_parts ‹_› ?_))
    by_cases q1 : ([S "->", S "let", S "comprehension", S "generator", S "quote", S "macro"].any (· == hd)) = true
    · refine ite_pos q1 ?_
      repeat (first | tbr_iter "zst" | tbr_iter "zif")
      have sk : hd ∈ skips := (by decide : ∀ y ∈ wordsAll, ([S "->", S "let", S "comprehension", S "generator", S "quote", S "macro"].any (· == y)) = true → y ∈ skips) hd hs.word q1
      obtain ⟨rfl, rfl⟩ := hs.l_skip sk
      cases hw'
      exact stop rfl htr S7
    refine ite_neg q1 ?_
    repeat (first | (with_reducible refine isTrue_or_nil ?_) | tbr_iter "zif" | (with_reducible refine wpAny_execs_nil ?_) | (with_reducible refine seqK_next ?_))
    refine x_join (s := up s h3 tk3) (fun h => St w g L (V150 (some (.ref x)) (some v) (some (.ref lf)) (some (.ref at_))) ((lf, isPL vs') :: L3 a0 a1 a2 (run e0 cur)) h ∧ TupKeep h7 h) ?_ ?_
    · obtain ⟨dx, hxi, hxf⟩ := hx'.mono S7.F.keep
      have S3' := S7
      have H3 : ∀ p ∈ L3 a0 a1 a2 cur, Has h7 p := fun p hp => (S7.N p (.tail _ hp)).1
      have fin : ∀ {ls' : Ls} {h8 h9 : Heap} {tk9 : Nat}, h7.StaysIn h8 → (∀ p ∈ L3 a0 a1 a2 ls', Has h9 p) → (∀ b o, b ∉ [a0, a1, a2] → h8.get? b = some o → h9.get? b = some o) → ls' = run e0 cur → Flow.next = .next ∧ ∃ h tk, up (up s h3 tk3) h9 tk9 = up (up s h3 tk3) h tk ∧ St w g L (V150 (some (.ref x)) (some v) (some (.ref lf)) (some (.ref at_))) ((lf, isPL vs') :: L3 a0 a1 a2 (run e0 cur)) h ∧ TupKeep h7 h := by
        intro ls' h8 h9 tk9 k8 H9 k9 e
        subst e
        exact ⟨rfl, _, _, rfl, (S7.keeps k8).call3 nlf k9 H9, (TupKeep.of_stays k8).trans (TupKeep.of_but (noTup_L3 fun p hp => ((S7.keeps k8).N p (.tail _ hp)).1) k9)⟩
      refine wpAny_If ?_
      repeat (first | tbr_iter "zst" | (with_reducible first|refine lo150_self ‹_› ?_|refine lo150_tree ‹_› ?_|refine lo150_left ‹_› ?_|refine lo150_here ‹_› ?_|refine lo150_INNER ‹_› ?_|refine lo150_ASSIGNS ‹_› ?_|refine ca150_targets_of ‹_› (by with_unfolding_all rfl) (by with_unfolding_all rfl) ?_ (by with_unfolding_all rfl)|refine lo150_targets_of ‹_› ?_|refine ca150_defined_by ‹_› (by with_unfolding_all rfl) (by with_unfolding_all rfl) ?_ (by with_unfolding_all rfl)|refine lo150_defined_by ‹_› ?_|refine ca150_own_parts ‹_› (by with_unfolding_all rfl) (by with_unfolding_all rfl) ?_ (by with_unfolding_all rfl)|refine lo150_own_parts ‹_› ?_) | tbr_iter "zit")
      obtain ⟨us5, n5, f5, g5⟩ := g50 w.params
      refine c_int (tup_glob S7.kin f5) g5 ?_
      repeat (first | tbr_iter "zst" | (with_reducible first|refine lo150_self ‹_› ?_|refine lo150_tree ‹_› ?_|refine lo150_left ‹_› ?_|refine lo150_here ‹_› ?_|refine lo150_INNER ‹_› ?_|refine lo150_ASSIGNS ‹_› ?_|refine ca150_targets_of ‹_› (by with_unfolding_all rfl) (by with_unfolding_all rfl) ?_ (by with_unfolding_all rfl)|refine lo150_targets_of ‹_› ?_|refine ca150_defined_by ‹_› (by with_unfolding_all rfl) (by with_unfolding_all rfl) ?_ (by with_unfolding_all rfl)|refine lo150_defined_by ‹_› ?_|refine ca150_own_parts ‹_› (by with_unfolding_all rfl) (by with_unfolding_all rfl) ?_ (by with_unfolding_all rfl)|refine lo150_own_parts ‹_› ?_))
      by_cases q2 : ([S "=", S "+=", S "-=", S "*=", S "//=", S "%=", S "|=", S "&="].any (· == hd)) = true
      · refine ite_pos q2 ?_
        have mo : hd ∈ opsA := (by decide : ∀ y ∈ wordsAll, ([S "=", S "+=", S "-=", S "*=", S "//=", S "%=", S "|=", S "&="].any (· == y)) = true → y ∈ opsA) hd hs.word q2
        obtain ⟨Pl, vv, okP, rfl, rfl⟩ := hs.l_asg mo
        cases i3 with
        | cons s1 i3 =>
        cases i3 with
        | cons s2 i3 =>
        cases i3
        repeat (first | tbr_iter "zst" | (with_reducible first|refine lo150_self ‹_› ?_|refine lo150_tree ‹_› ?_|refine lo150_left ‹_› ?_|refine lo150_here ‹_› ?_|refine lo150_INNER ‹_› ?_|refine lo150_ASSIGNS ‹_› ?_|refine ca150_targets_of ‹_› (by with_unfolding_all rfl) (by with_unfolding_all rfl) ?_ (by with_unfolding_all rfl)|refine lo150_targets_of ‹_› ?_|refine ca150_defined_by ‹_› (by with_unfolding_all rfl) (by with_unfolding_all rfl) ?_ (by with_unfolding_all rfl)|refine lo150_defined_by ‹_› ?_|refine ca150_own_parts ‹_› (by with_unfolding_all rfl) (by with_unfolding_all rfl) ?_ (by with_unfolding_all rfl)|refine lo150_own_parts ‹_› ?_) | tbr_iter "zcb")
        refine u_meth S7 hxi hxf (pg_put _) (ms_put _) (if_put _) rfl ?_
        refine callWith_put S7.kin (kp164 _) (by with_unfolding_all rfl) (by with_unfolding_all rfl) ?_
        repeat (first | tbr_iter "zst" | (with_reducible first|refine lo150_self ‹_› ?_|refine lo150_tree ‹_› ?_|refine lo150_left ‹_› ?_|refine lo150_here ‹_› ?_|refine lo150_INNER ‹_› ?_|refine lo150_ASSIGNS ‹_› ?_|refine ca150_targets_of ‹_› (by with_unfolding_all rfl) (by with_unfolding_all rfl) ?_ (by with_unfolding_all rfl)|refine lo150_targets_of ‹_› ?_|refine ca150_defined_by ‹_› (by with_unfolding_all rfl) (by with_unfolding_all rfl) ?_ (by with_unfolding_all rfl)|refine lo150_defined_by ‹_› ?_|refine ca150_own_parts ‹_› (by with_unfolding_all rfl) (by with_unfolding_all rfl) ?_ (by with_unfolding_all rfl)|refine lo150_own_parts ‹_› ?_) | tbr_iter "zcb")
        refine u_get S7 hxi hxf (ga167_assigned _) (hd167 _) (fa167_assigned _) rfl rfl rfl ?_
        intro tk8
        repeat (first | tbr_iter "zst" | (with_reducible first|refine lo150_self ‹_› ?_|refine lo150_tree ‹_› ?_|refine lo150_left ‹_› ?_|refine lo150_here ‹_› ?_|refine lo150_INNER ‹_› ?_|refine lo150_ASSIGNS ‹_› ?_|refine ca150_targets_of ‹_› (by with_unfolding_all rfl) (by with_unfolding_all rfl) ?_ (by with_unfolding_all rfl)|refine lo150_targets_of ‹_› ?_|refine ca150_defined_by ‹_› (by with_unfolding_all rfl) (by with_unfolding_all rfl) ?_ (by with_unfolding_all rfl)|refine lo150_defined_by ‹_› ?_|refine ca150_own_parts ‹_› (by with_unfolding_all rfl) (by with_unfolding_all rfl) ?_ (by with_unfolding_all rfl)|refine lo150_own_parts ‹_› ?_) | tbr_iter "zcb" | tbr_iter "zit")
        refine u_pure S7 (sp_to (R'.le (by decide)) B (fun b o e => S7.F.keep b o (hg b o e)) s1) ?_
        rintro r h9 tk9 k9 S9 ⟨b', rfl, hb, x9⟩
        obtain ⟨us, mm, hus, eb⟩ := x9.strs
        repeat (first | tbr_iter "zst")
        have H9 : ∀ p ∈ L3 a0 a1 a2 cur, Has h9 p := fun p hp => (S9.N p (.tail _ hp)).1
        have zx : Pl.xs.length ≤ 2 := by cases Pl <;> simp [Place.xs]
        refine ⟨S9.kin, r_use (sp_put (R'.le (by decide)) B (fun b o e => S9.F.keep b o (hg b o e)) (H9 _ (.head _)) (hL _ (.head _)).2 (b := b') ⟨_, eb, rfl, _, rfl⟩ hus (fun q => by obtain ⟨o, e, _⟩ := H3 _ (.head _); have hb' : h7.get? b' = none := hb; rw [← q, show h7.get? a0 = some o from e] at hb'; cases hb') (by have := hG.1.len; omega)) ?_⟩
        rintro r h10 tk10 k10 x10
        obtain ⟨H10, kk10⟩ := put3 (k := .a) N H9 rfl k10 x10
        repeat (first | tbr_iter "zst")
        exact fin k9 H10 kk10 rfl
      refine ite_neg q2 ?_
      repeat (first | tbr_iter "zst" | (with_reducible first|refine lo150_self ‹_› ?_|refine lo150_tree ‹_› ?_|refine lo150_left ‹_› ?_|refine lo150_here ‹_› ?_|refine lo150_INNER ‹_› ?_|refine lo150_ASSIGNS ‹_› ?_|refine ca150_targets_of ‹_› (by with_unfolding_all rfl) (by with_unfolding_all rfl) ?_ (by with_unfolding_all rfl)|refine lo150_targets_of ‹_› ?_|refine ca150_defined_by ‹_› (by with_unfolding_all rfl) (by with_unfolding_all rfl) ?_ (by with_unfolding_all rfl)|refine lo150_defined_by ‹_› ?_|refine ca150_own_parts ‹_› (by with_unfolding_all rfl) (by with_unfolding_all rfl) ?_ (by with_unfolding_all rfl)|refine lo150_own_parts ‹_› ?_) | tbr_iter "zit")
      refine u_tup S7 (by simp) ?_
      intro a8 h8 tk8 ht8 k8 S8
      refine c_int ht8 (by repeat (first | exact StrsAre.nil | apply StrsAre.cons)) ?_
      repeat (first | tbr_iter "zst" | (with_reducible first|refine lo150_self ‹_› ?_|refine lo150_tree ‹_› ?_|refine lo150_left ‹_› ?_|refine lo150_here ‹_› ?_|refine lo150_INNER ‹_› ?_|refine lo150_ASSIGNS ‹_› ?_|refine ca150_targets_of ‹_› (by with_unfolding_all rfl) (by with_unfolding_all rfl) ?_ (by with_unfolding_all rfl)|refine lo150_targets_of ‹_› ?_|refine ca150_defined_by ‹_› (by with_unfolding_all rfl) (by with_unfolding_all rfl) ?_ (by with_unfolding_all rfl)|refine lo150_defined_by ‹_› ?_|refine ca150_own_parts ‹_› (by with_unfolding_all rfl) (by with_unfolding_all rfl) ?_ (by with_unfolding_all rfl)|refine lo150_own_parts ‹_› ?_))
      by_cases q3 : ([S "local", S "global"].any (· == hd)) = true
      · refine ite_pos q3 ?_
        obtain ⟨b, rfl⟩ : ∃ b, hd = wrd b := by
          rcases List.mem_cons.mp (any_mem q3) with e | e
          · exact ⟨true, e⟩
          · exact ⟨false, List.mem_singleton.mp e⟩
        obtain ⟨z, tt, htt, hz, rfl, rfl⟩ := hs.l_told rfl
        repeat (first | tbr_iter "zst" | (with_reducible first|refine lo150_self ‹_› ?_|refine lo150_tree ‹_› ?_|refine lo150_left ‹_› ?_|refine lo150_here ‹_› ?_|refine lo150_INNER ‹_› ?_|refine lo150_ASSIGNS ‹_› ?_|refine ca150_targets_of ‹_› (by with_unfolding_all rfl) (by with_unfolding_all rfl) ?_ (by with_unfolding_all rfl)|refine lo150_targets_of ‹_› ?_|refine ca150_defined_by ‹_› (by with_unfolding_all rfl) (by with_unfolding_all rfl) ?_ (by with_unfolding_all rfl)|refine lo150_defined_by ‹_› ?_|refine ca150_own_parts ‹_› (by with_unfolding_all rfl) (by with_unfolding_all rfl) ?_ (by with_unfolding_all rfl)|refine lo150_own_parts ‹_› ?_) | tbr_iter "zcb")
        refine u_meth S8 (hx'.mono S8.F.keep).choose_spec.1 (hx'.mono S8.F.keep).choose_spec.2 (pg_told _) (ms_told _) (if_told _) rfl ?_
        refine callWith_put S8.kin (kp157 _) (by with_unfolding_all rfl) (by with_unfolding_all rfl) ?_
        repeat (first | tbr_iter "zst" | (with_reducible first|refine lo150_self ‹_› ?_|refine lo150_tree ‹_› ?_|refine lo150_left ‹_› ?_|refine lo150_here ‹_› ?_|refine lo150_INNER ‹_› ?_|refine lo150_ASSIGNS ‹_› ?_|refine ca150_targets_of ‹_› (by with_unfolding_all rfl) (by with_unfolding_all rfl) ?_ (by with_unfolding_all rfl)|refine lo150_targets_of ‹_› ?_|refine ca150_defined_by ‹_› (by with_unfolding_all rfl) (by with_unfolding_all rfl) ?_ (by with_unfolding_all rfl)|refine lo150_defined_by ‹_› ?_|refine ca150_own_parts ‹_› (by with_unfolding_all rfl) (by with_unfolding_all rfl) ?_ (by with_unfolding_all rfl)|refine lo150_own_parts ‹_› ?_))
        have H8 : ∀ p ∈ L3 a0 a1 a2 cur, Has h8 p ∧ h₀.get? p.1 = none := lows fun p hp => S8.N p (.tail _ hp)
        refine ⟨S8.kin, r_use (sp_told (R'.le (by decide)) B (fun b o e => S8.F.keep b o (hg b o e)) (TV.mono (TupKeep.of_stays k8)) htt (hx'.mono S8.F.keep) H8 N hG) ?_⟩
        rintro r h10 tk10 k10 x10
        repeat (first | tbr_iter "zst")
        exact fin k8 x10 k10 rfl
      refine ite_neg q3 ?_
      repeat (first | tbr_iter "zst" | (with_reducible first|refine lo150_self ‹_› ?_|refine lo150_tree ‹_› ?_|refine lo150_left ‹_› ?_|refine lo150_here ‹_› ?_|refine lo150_INNER ‹_› ?_|refine lo150_ASSIGNS ‹_› ?_|refine ca150_targets_of ‹_› (by with_unfolding_all rfl) (by with_unfolding_all rfl) ?_ (by with_unfolding_all rfl)|refine lo150_targets_of ‹_› ?_|refine ca150_defined_by ‹_› (by with_unfolding_all rfl) (by with_unfolding_all rfl) ?_ (by with_unfolding_all rfl)|refine lo150_defined_by ‹_› ?_|refine ca150_own_parts ‹_› (by with_unfolding_all rfl) (by with_unfolding_all rfl) ?_ (by with_unfolding_all rfl)|refine lo150_own_parts ‹_› ?_) | tbr_iter "zit")
      have j8 := i1.keeps k8
      repeat (first | tbr_iter "zst" | (with_reducible first|refine lo150_self ‹_› ?_|refine lo150_tree ‹_› ?_|refine lo150_left ‹_› ?_|refine lo150_here ‹_› ?_|refine lo150_INNER ‹_› ?_|refine lo150_ASSIGNS ‹_› ?_|refine ca150_targets_of ‹_› (by with_unfolding_all rfl) (by with_unfolding_all rfl) ?_ (by with_unfolding_all rfl)|refine lo150_targets_of ‹_› ?_|refine ca150_defined_by ‹_› (by with_unfolding_all rfl) (by with_unfolding_all rfl) ?_ (by with_unfolding_all rfl)|refine lo150_defined_by ‹_› ?_|refine ca150_own_parts ‹_› (by with_unfolding_all rfl) (by with_unfolding_all rfl) ?_ (by with_unfolding_all rfl)|refine lo150_own_parts ‹_› ?_) | tbr_iter "zit")
      refine u_tup S8 (by simp) ?_
      intro a9 h9 tk9 ht9 k9 S9
      refine c_int ht9 (by repeat (first | exact StrsAre.nil | apply StrsAre.cons)) ?_
      repeat (first | tbr_iter "zst" | (with_reducible first|refine lo150_self ‹_› ?_|refine lo150_tree ‹_› ?_|refine lo150_left ‹_› ?_|refine lo150_here ‹_› ?_|refine lo150_INNER ‹_› ?_|refine lo150_ASSIGNS ‹_› ?_|refine ca150_targets_of ‹_› (by with_unfolding_all rfl) (by with_unfolding_all rfl) ?_ (by with_unfolding_all rfl)|refine lo150_targets_of ‹_› ?_|refine ca150_defined_by ‹_› (by with_unfolding_all rfl) (by with_unfolding_all rfl) ?_ (by with_unfolding_all rfl)|refine lo150_defined_by ‹_› ?_|refine ca150_own_parts ‹_› (by with_unfolding_all rfl) (by with_unfolding_all rfl) ?_ (by with_unfolding_all rfl)|refine lo150_own_parts ‹_› ?_))
      have k79 : h7.StaysIn h9 := fun b o e => k9 b o (k8 b o e)
      by_cases q4 : ([S "function", S "generated"].any (· == hd)) = true
      · refine ite_pos q4 ?_
        have ef : hd = S "function" := (by decide : ∀ y ∈ wordsAll, ([S "function", S "generated"].any (· == y)) = true → y = S "function") hd hs.word q4
        subst ef
        obtain ⟨rfl, z, bb, hz, rfl, rfl⟩ := hs.l_fn rfl
        repeat (first | tbr_iter "zst" | (with_reducible first|refine lo150_self ‹_› ?_|refine lo150_tree ‹_› ?_|refine lo150_left ‹_› ?_|refine lo150_here ‹_› ?_|refine lo150_INNER ‹_› ?_|refine lo150_ASSIGNS ‹_› ?_|refine ca150_targets_of ‹_› (by with_unfolding_all rfl) (by with_unfolding_all rfl) ?_ (by with_unfolding_all rfl)|refine lo150_targets_of ‹_› ?_|refine ca150_defined_by ‹_› (by with_unfolding_all rfl) (by with_unfolding_all rfl) ?_ (by with_unfolding_all rfl)|refine lo150_defined_by ‹_› ?_|refine ca150_own_parts ‹_› (by with_unfolding_all rfl) (by with_unfolding_all rfl) ?_ (by with_unfolding_all rfl)|refine lo150_own_parts ‹_› ?_) | tbr_iter "zcb")
        refine u_meth S9 (hx'.mono S9.F.keep).choose_spec.1 (hx'.mono S9.F.keep).choose_spec.2 (pg_put _) (ms_put _) (if_put _) rfl ?_
        refine callWith_put S9.kin (kp164 _) (by with_unfolding_all rfl) (by with_unfolding_all rfl) ?_
        repeat (first | tbr_iter "zst" | (with_reducible first|refine lo150_self ‹_› ?_|refine lo150_tree ‹_› ?_|refine lo150_left ‹_› ?_|refine lo150_here ‹_› ?_|refine lo150_INNER ‹_› ?_|refine lo150_ASSIGNS ‹_› ?_|refine ca150_targets_of ‹_› (by with_unfolding_all rfl) (by with_unfolding_all rfl) ?_ (by with_unfolding_all rfl)|refine lo150_targets_of ‹_› ?_|refine ca150_defined_by ‹_› (by with_unfolding_all rfl) (by with_unfolding_all rfl) ?_ (by with_unfolding_all rfl)|refine lo150_defined_by ‹_› ?_|refine ca150_own_parts ‹_› (by with_unfolding_all rfl) (by with_unfolding_all rfl) ?_ (by with_unfolding_all rfl)|refine lo150_own_parts ‹_› ?_) | tbr_iter "zcb")
        refine u_get S9 (hx'.mono S9.F.keep).choose_spec.1 (hx'.mono S9.F.keep).choose_spec.2 (ga167_assigned _) (hd167 _) (fa167_assigned _) rfl rfl rfl ?_
        intro tk10
        repeat (first | tbr_iter "zst" | (with_reducible first|refine lo150_self ‹_› ?_|refine lo150_tree ‹_› ?_|refine lo150_left ‹_› ?_|refine lo150_here ‹_› ?_|refine lo150_INNER ‹_› ?_|refine lo150_ASSIGNS ‹_› ?_|refine ca150_targets_of ‹_› (by with_unfolding_all rfl) (by with_unfolding_all rfl) ?_ (by with_unfolding_all rfl)|refine lo150_targets_of ‹_› ?_|refine ca150_defined_by ‹_› (by with_unfolding_all rfl) (by with_unfolding_all rfl) ?_ (by with_unfolding_all rfl)|refine lo150_defined_by ‹_› ?_|refine ca150_own_parts ‹_› (by with_unfolding_all rfl) (by with_unfolding_all rfl) ?_ (by with_unfolding_all rfl)|refine lo150_own_parts ‹_› ?_) | tbr_iter "zcb")
        refine u_pure S9 (sp_def (R'.le (by decide)) B (fun b o e => S9.F.keep b o (hg b o e)) (TV.mono (TupKeep.of_stays k79))) ?_
        rintro r h10 tk10 k10 S10 ⟨b', rfl, hb, x10⟩
        obtain ⟨us, mm, hus, eb⟩ := x10.strs
        repeat (first | tbr_iter "zst")
        have H10 : ∀ p ∈ L3 a0 a1 a2 cur, Has h10 p := fun p hp => (S10.N p (.tail _ hp)).1
        have H9 : ∀ p ∈ L3 a0 a1 a2 cur, Has h9 p := fun p hp => (S9.N p (.tail _ hp)).1
        refine ⟨S10.kin, r_use (sp_put (R'.le (by decide)) B (fun b o e => S10.F.keep b o (hg b o e)) (H10 _ (.head _)) (hL _ (.head _)).2 (b := b') ⟨_, eb, rfl, _, rfl⟩ hus (fun q => by obtain ⟨o, e, _⟩ := H9 _ (.head _); have hb' : h9.get? b' = none := hb; rw [← q, show h9.get? a0 = some o from e] at hb'; cases hb') (by have := hG.1.len; simp; omega)) ?_⟩
        rintro r h11 tk11 k11 x11
        obtain ⟨H11, kk11⟩ := put3 (k := .a) N H10 rfl k11 x11
        repeat (first | tbr_iter "zst")
        exact fin (fun b o e => k10 b o (k79 b o e)) H11 kk11 rfl
      refine ite_neg q4 ?_
      repeat (first | tbr_iter "zst")
      have e0n : e0 = [] := hs.l_none (fun q => q2 ((by decide : ∀ y ∈ opsA, ([S "=", S "+=", S "-=", S "*=", S "//=", S "%=", S "|=", S "&="].any (· == y)) = true) hd q)) (fun b e => q3 (by rw [e]; cases b <;> decide)) (fun e => q4 (by rw [e]; decide))
      exact fin (ls' := cur) k79 (fun p hp => (S9.N p (.tail _ hp)).1) (fun _ _ _ e => e) (by rw [e0n]; rfl)
    rintro h8 tk8 ⟨S8, kt8⟩
    replace htr := htr.mono kt8
    replace TV := TV.mono kt8
    have P8 := (S8.N _ (.head _)).1
    obtain ⟨ol8, el8, nl8, rfl⟩ := id P8
    repeat (first | tbr_iter "zst" | (with_reducible first|refine lo150_self ‹_› ?_|refine lo150_tree ‹_› ?_|refine lo150_left ‹_› ?_|refine lo150_here ‹_› ?_|refine lo150_INNER ‹_› ?_|refine lo150_ASSIGNS ‹_› ?_|refine ca150_targets_of ‹_› (by with_unfolding_all rfl) (by with_unfolding_all rfl) ?_ (by with_unfolding_all rfl)|refine lo150_targets_of ‹_› ?_|refine ca150_defined_by ‹_› (by with_unfolding_all rfl) (by with_unfolding_all rfl) ?_ (by with_unfolding_all rfl)|refine lo150_defined_by ‹_› ?_|refine ca150_own_parts ‹_› (by with_unfolding_all rfl) (by with_unfolding_all rfl) ?_ (by with_unfolding_all rfl)|refine lo150_own_parts ‹_› ?_) | tbr_iter "zcb")
    refine m_method el8 rfl rfl PySem.F.slot_list_extend PySem.F.type_list_extend ?_
    repeat (first | tbr_iter "zst" | (with_reducible first|refine lo150_self ‹_› ?_|refine lo150_tree ‹_› ?_|refine lo150_left ‹_› ?_|refine lo150_here ‹_› ?_|refine lo150_INNER ‹_› ?_|refine lo150_ASSIGNS ‹_› ?_|refine ca150_targets_of ‹_› (by with_unfolding_all rfl) (by with_unfolding_all rfl) ?_ (by with_unfolding_all rfl)|refine lo150_targets_of ‹_› ?_|refine ca150_defined_by ‹_› (by with_unfolding_all rfl) (by with_unfolding_all rfl) ?_ (by with_unfolding_all rfl)|refine lo150_defined_by ‹_› ?_|refine ca150_own_parts ‹_› (by with_unfolding_all rfl) (by with_unfolding_all rfl) ?_ (by with_unfolding_all rfl)|refine lo150_own_parts ‹_› ?_) | tbr_iter "zcb")
    · refine u_pure S8 (sp_own (R'.le (by decide)) B (fun b o e => S8.F.keep b o (hg b o e)) TV hs (fun m => q1 ((by decide : ∀ y ∈ [S "->", S "let", S "comprehension"], ([S "->", S "let", S "comprehension", S "generator", S "quote", S "macro"].any (· == y)) = true) hd m))) ?_
      rintro r h9 tk9 k9 S9 ⟨c, us, rfl, hc, hus⟩
      have zu : us.length ≤ 600 := by
        have a := hus.length
        have b := hw'.len
        omega
      have zv : vs'.length ≤ 600 := by rw [List.length_append] at zl; omega
      repeat (first | tbr_iter "zst")
      refine ⟨h9, tk9, c, us, rfl, rfl, hc, by omega, fun d h10 tk10 hd10 k10 => ?_⟩
      repeat (first | tbr_iter "zst")
      have S10 := S9.keeps k10
      refine m_extend_t (k10 _ _ (k9 _ _ el8)) hd10 (by rw [List.length_reverse]; omega) ?_
      intro h11 x11 k11
      have S11 := St.upd (pre := []) (P' := isPL (vs' ++ us.reverse)) S10 nolf k11 x11
      have P10 := (S10.N _ (.head _)).1
      have tkB : TupKeep h9 h11 := (TupKeep.of_stays k10).trans (TupKeep.of_but (noTup_pl P10) k11)
      repeat (first | tbr_iter "zst")
      refine go (tk8 := _) ?_ hw' hm2 (by rw [run_append]) (hG.run fun e he => w1.ok e (List.mem_append_left _ he)) S11
      rw [List.reverse_append, List.reverse_reverse]
      exact (hus.mono tkB).append (htr.mono ((TupKeep.of_stays k9).trans tkB))
    · intro h tk Q q
      refine wpAny_UnaryOp (r_int fun u tk' => ?_)
      exact PySem.P.neg_int (q _ _)
end

section
variable {w : World} {A : Around} {s : Shared} {h₀ : Heap}
theorem c_notint {h : Heap} {tk : Nat} {E : Value → Shared → Prop} {Q : Value → Shared → Prop} {a : Addr} {vs : List Value} {ls : List Str} {x : Str} {t : Nat} (ha : IsTup h a vs.toArray) (hv : StrsAre vs ls) (q : Q (.bool (!(ls.any (· == x)))) (up s h tk)) : wpAny (model PW w) A (compareOp .NotIn (.str x t) (.ref a)) Q E (up s h tk) :=
  notin_tuple_strs (s := up s h tk) ha hv q
theorem sp_fhead {v : Value} {x : Str} {b : T} (R : Room 2 A) (B : Bs w h₀) (k₀ : h₀.StaysIn s.heap) (ht : TreeAt s.heap v (.node (S "function") [.node (S "call") [.sym x, .sym (S "z")], b])) :
    wpAny (model PW w) A (call (.ref 216) [v]) (Ret s [] fun r h' => TreeAt h' r (.node (S "call") [.sym x, .sym (S "z")])) NoE s := by
  refine en216 R B k₀ [] (fun p hp => nomatch hp) ?_
  intro g L h₁ tk SS hg kg kg' k₁ R'
  have ht' := ht.kg kg noTup_nil
  have TV := ht'
  cases ht' with
  | node h1 h2 h3 =>
  cases h3 with
  | @cons c1 _ _ _ t1 h3 =>
  cases h3 with
  | cons t2 h3 =>
  cases h3
  have j1 := h1.keeps SS.F.keep
  have j2 := h2.keeps SS.F.keep
  refine x_asg ?_ (by rfl)
  repeat (first | tbr_iter "zst" | (with_reducible first|refine lo216_tree ‹_› ?_|refine lo216_head ‹_› ?_|refine ca216_is_expr ‹_› (by with_unfolding_all rfl) (by with_unfolding_all rfl) ?_ (by with_unfolding_all rfl)|refine lo216_is_expr ‹_› ?_|refine ca216_head_of ‹_› (by with_unfolding_all rfl) (by with_unfolding_all rfl) ?_ (by with_unfolding_all rfl)|refine lo216_head_of ‹_› ?_) | tbr_iter "zit")
  refine so216_head SS ?_
  intro h4 tk4 S4 k4
  repeat (first | tbr_iter "zst" | (with_reducible first|refine lo216_tree ‹_› ?_|refine lo216_head ‹_› ?_|refine ca216_is_expr ‹_› (by with_unfolding_all rfl) (by with_unfolding_all rfl) ?_ (by with_unfolding_all rfl)|refine lo216_is_expr ‹_› ?_|refine ca216_head_of ‹_› (by with_unfolding_all rfl) (by with_unfolding_all rfl) ?_ (by with_unfolding_all rfl)|refine lo216_head_of ‹_› ?_))
  refine u_pure S4 (sp_is_expr (R'.le (by decide)) B (fun b o e => S4.F.keep b o (hg b o e)) (TV.mono (TupKeep.of_stays S4.F.keep))) ?_
  rintro r h5 tk5 k5 S5 rfl
  repeat (first | tbr_iter "zst")
  refine ite_neg (by first | exact ne_of_bool (by kernel_rfl)) ?_
  repeat (first | (with_reducible refine wpAny_execs_nil ?_) | (with_reducible refine seqK_next ?_))
  refine x_cons ?_
  refine r_while (fun _ h => St w g L (V28 (some _) (some c1)) [] h) ?_ 0 S5
  intro n h6 tk6 S6
  repeat (first | tbr_iter "zst" | (with_reducible first|refine lo216_tree ‹_› ?_|refine lo216_head ‹_› ?_|refine ca216_is_expr ‹_› (by with_unfolding_all rfl) (by with_unfolding_all rfl) ?_ (by with_unfolding_all rfl)|refine lo216_is_expr ‹_› ?_|refine ca216_head_of ‹_› (by with_unfolding_all rfl) (by with_unfolding_all rfl) ?_ (by with_unfolding_all rfl)|refine lo216_head_of ‹_› ?_))
  refine u_pure S6 (sp_head_of (R'.le (by decide)) B (fun b o e => S6.F.keep b o (hg b o e)) (t1.mono (TupKeep.of_stays S6.F.keep))) ?_
  rintro r h7 tk7 k7 S7 ⟨th, rfl⟩
  repeat (first | tbr_iter "zst" | (with_reducible first|refine lo216_tree ‹_› ?_|refine lo216_head ‹_› ?_|refine ca216_is_expr ‹_› (by with_unfolding_all rfl) (by with_unfolding_all rfl) ?_ (by with_unfolding_all rfl)|refine lo216_is_expr ‹_› ?_|refine ca216_head_of ‹_› (by with_unfolding_all rfl) (by with_unfolding_all rfl) ?_ (by with_unfolding_all rfl)|refine lo216_head_of ‹_› ?_))
  refine ite_neg (by first | exact ne_of_bool (by kernel_rfl)) ?_
  repeat (first | tbr_iter "zst" | (with_reducible first|refine lo216_tree ‹_› ?_|refine lo216_head ‹_› ?_|refine ca216_is_expr ‹_› (by with_unfolding_all rfl) (by with_unfolding_all rfl) ?_ (by with_unfolding_all rfl)|refine lo216_is_expr ‹_› ?_|refine ca216_head_of ‹_› (by with_unfolding_all rfl) (by with_unfolding_all rfl) ?_ (by with_unfolding_all rfl)|refine lo216_head_of ‹_› ?_))
  refine u_pure S7 (sp_head_of (R'.le (by decide)) B (fun b o e => S7.F.keep b o (hg b o e)) (t1.mono (TupKeep.of_stays S7.F.keep))) ?_
  rintro r h8 tk8 k8 S8 ⟨th8, rfl⟩
  repeat (first | tbr_iter "zst" | (with_reducible first|refine lo216_tree ‹_› ?_|refine lo216_head ‹_› ?_|refine ca216_is_expr ‹_› (by with_unfolding_all rfl) (by with_unfolding_all rfl) ?_ (by with_unfolding_all rfl)|refine lo216_is_expr ‹_› ?_|refine ca216_head_of ‹_› (by with_unfolding_all rfl) (by with_unfolding_all rfl) ?_ (by with_unfolding_all rfl)|refine lo216_head_of ‹_› ?_))
  refine ite_neg (by first | exact ne_of_bool (by kernel_rfl)) ?_
  repeat (first | tbr_iter "zst" | (with_reducible first|refine lo216_tree ‹_› ?_|refine lo216_head ‹_› ?_|refine ca216_is_expr ‹_› (by with_unfolding_all rfl) (by with_unfolding_all rfl) ?_ (by with_unfolding_all rfl)|refine lo216_is_expr ‹_› ?_|refine ca216_head_of ‹_› (by with_unfolding_all rfl) (by with_unfolding_all rfl) ?_ (by with_unfolding_all rfl)|refine lo216_head_of ‹_› ?_) | tbr_iter "zif")
  exact r_ret S8 kg (t1.mono (TupKeep.of_stays S8.F.keep))
theorem sp_oname {v : Value} {hd : Str} {ps ts : List T} {e0 : List Ev} (R : Room 3 A) (B : Bs w h₀) (k₀ : h₀.StaysIn s.heap) (ht : TreeAt s.heap v (.node hd ps)) (hs : Sp hd ps e0 ts) :
    wpAny (model PW w) A (call (.ref 223) [v]) (Ret s [] fun r _ => (hd = S "function" → ∃ x t, x ∈ names ∧ e0 = [(.a, [x])] ∧ r = .str x t) ∧ (hd ≠ S "function" → ∃ t, r = .str (S "") t)) NoE s := by
  refine en223 R B k₀ [] (fun p hp => nomatch hp) ?_
  intro g L h₁ tk SS hg kg kg' k₁ R'
  have ht' := ht.kg kg noTup_nil
  have TV := ht'
  cases ht' with
  | @node at_ p _ _ th vs _ h1 h2 h3 =>
  have j1 := h1.keeps SS.F.keep
  have j2 := h2.keeps SS.F.keep
  refine x_if ?_
  repeat (first | tbr_iter "zst" | (with_reducible first|refine lo223_tree ‹_› ?_|refine lo223_head ‹_› ?_|refine ca223_function_head ‹_› (by with_unfolding_all rfl) (by with_unfolding_all rfl) ?_ (by with_unfolding_all rfl)|refine lo223_function_head ‹_› ?_|refine ca223_is_expr ‹_› (by with_unfolding_all rfl) (by with_unfolding_all rfl) ?_ (by with_unfolding_all rfl)|refine lo223_is_expr ‹_› ?_|refine ca223_is_sym ‹_› (by with_unfolding_all rfl) (by with_unfolding_all rfl) ?_ (by with_unfolding_all rfl)|refine lo223_is_sym ‹_› ?_) | tbr_iter "zit")
  refine u_tup SS (by simp) ?_
  intro a9 h9 tk9 ht9 k9 S9
  refine c_notint ht9 (by repeat (first | exact StrsAre.nil | apply StrsAre.cons)) ?_
  repeat (first | tbr_iter "zst" | (with_reducible first|refine lo223_tree ‹_› ?_|refine lo223_head ‹_› ?_|refine ca223_function_head ‹_› (by with_unfolding_all rfl) (by with_unfolding_all rfl) ?_ (by with_unfolding_all rfl)|refine lo223_function_head ‹_› ?_|refine ca223_is_expr ‹_› (by with_unfolding_all rfl) (by with_unfolding_all rfl) ?_ (by with_unfolding_all rfl)|refine lo223_is_expr ‹_› ?_|refine ca223_is_sym ‹_› (by with_unfolding_all rfl) (by with_unfolding_all rfl) ?_ (by with_unfolding_all rfl)|refine lo223_is_sym ‹_› ?_))
  by_cases q1 : ([S "function", S "generated"].any (· == hd)) = true
  · refine ite_neg (by rw [q1]; decide) ?_
    repeat (first | (with_reducible refine wpAny_execs_nil ?_) | (with_reducible refine seqK_next ?_))
    have ef : hd = S "function" := (by decide : ∀ y ∈ wordsAll, ([S "function", S "generated"].any (· == y)) = true → y = S "function") hd hs.word q1
    subst ef
    obtain ⟨rfl, z, bb, hz, rfl, rfl⟩ := hs.l_fn rfl
    refine x_asg ?_ (by with_unfolding_all rfl)
    repeat (first | tbr_iter "zst" | (with_reducible first|refine lo223_tree ‹_› ?_|refine lo223_head ‹_› ?_|refine ca223_function_head ‹_› (by with_unfolding_all rfl) (by with_unfolding_all rfl) ?_ (by with_unfolding_all rfl)|refine lo223_function_head ‹_› ?_|refine ca223_is_expr ‹_› (by with_unfolding_all rfl) (by with_unfolding_all rfl) ?_ (by with_unfolding_all rfl)|refine lo223_is_expr ‹_› ?_|refine ca223_is_sym ‹_› (by with_unfolding_all rfl) (by with_unfolding_all rfl) ?_ (by with_unfolding_all rfl)|refine lo223_is_sym ‹_› ?_))
    refine u_pure S9 (sp_fhead (R'.le (by decide)) B (fun b o e => S9.F.keep b o (hg b o e)) (TV.mono (TupKeep.of_stays S9.F.keep))) ?_
    rintro r h10 tk10 k10 S10 tr
    refine so223_head S10 ?_
    intro h11 tk11 S11 k11
    replace tr := tr.mono (TupKeep.of_low S10 k11)
    repeat (first | tbr_iter "zst" | (with_reducible first|refine lo223_tree ‹_› ?_|refine lo223_head ‹_› ?_|refine ca223_function_head ‹_› (by with_unfolding_all rfl) (by with_unfolding_all rfl) ?_ (by with_unfolding_all rfl)|refine lo223_function_head ‹_› ?_|refine ca223_is_expr ‹_› (by with_unfolding_all rfl) (by with_unfolding_all rfl) ?_ (by with_unfolding_all rfl)|refine lo223_is_expr ‹_› ?_|refine ca223_is_sym ‹_› (by with_unfolding_all rfl) (by with_unfolding_all rfl) ?_ (by with_unfolding_all rfl)|refine lo223_is_sym ‹_› ?_))
    refine u_pure S11 (sp_is_expr (R'.le (by decide)) B (fun b o e => S11.F.keep b o (hg b o e)) tr) ?_
    rintro r' h12 tk12 k12 S12 rfl
    repeat (first | tbr_iter "zst")
    refine ite_pos (by kernel_rfl) ?_
    replace tr := tr.mono (TupKeep.of_stays k12)
    cases tr with
    | node i1 i2 i3 =>
    cases i3 with
    | cons s1 i3 =>
    cases i3 with
    | cons s2 i3 =>
    cases i3
    have S1 := s1
    cases s1 with
    | sym z1 =>
    repeat (first | tbr_iter "zst" | (with_reducible first|refine lo223_tree ‹_› ?_|refine lo223_head ‹_› ?_|refine ca223_function_head ‹_› (by with_unfolding_all rfl) (by with_unfolding_all rfl) ?_ (by with_unfolding_all rfl)|refine lo223_function_head ‹_› ?_|refine ca223_is_expr ‹_› (by with_unfolding_all rfl) (by with_unfolding_all rfl) ?_ (by with_unfolding_all rfl)|refine lo223_is_expr ‹_› ?_|refine ca223_is_sym ‹_› (by with_unfolding_all rfl) (by with_unfolding_all rfl) ?_ (by with_unfolding_all rfl)|refine lo223_is_sym ‹_› ?_) | tbr_iter "zit")
    refine u_pure S12 (sp_is_sym (R'.le (by decide)) B (fun b o e => S12.F.keep b o (hg b o e)) S1) ?_
    rintro r' h13 tk13 k13 S13 rfl
    repeat (first | tbr_iter "zst")
    refine ite_pos rfl ?_
    have j4 := i2.keeps k13
    have j5 := i1.keeps k13
    have j6 := z1.keeps k13
    repeat (first | tbr_iter "zst" | (with_reducible first|refine lo223_tree ‹_› ?_|refine lo223_head ‹_› ?_|refine ca223_function_head ‹_› (by with_unfolding_all rfl) (by with_unfolding_all rfl) ?_ (by with_unfolding_all rfl)|refine lo223_function_head ‹_› ?_|refine ca223_is_expr ‹_› (by with_unfolding_all rfl) (by with_unfolding_all rfl) ?_ (by with_unfolding_all rfl)|refine lo223_is_expr ‹_› ?_|refine ca223_is_sym ‹_› (by with_unfolding_all rfl) (by with_unfolding_all rfl) ?_ (by with_unfolding_all rfl)|refine lo223_is_sym ‹_› ?_) | tbr_iter "zit" | tbr_iter "zif")
    exact r_ret S13 kg ⟨fun _ => ⟨z, _, hz, rfl, rfl⟩, fun q => absurd rfl q⟩
  · have q1' : ([S "function", S "generated"].any (· == hd)) = false := Bool.eq_false_iff.mpr q1
    refine ite_pos (by rw [q1']; decide) ?_
    repeat (first | tbr_iter "zst" | (with_reducible first|refine lo223_tree ‹_› ?_|refine lo223_head ‹_› ?_|refine ca223_function_head ‹_› (by with_unfolding_all rfl) (by with_unfolding_all rfl) ?_ (by with_unfolding_all rfl)|refine lo223_function_head ‹_› ?_|refine ca223_is_expr ‹_› (by with_unfolding_all rfl) (by with_unfolding_all rfl) ?_ (by with_unfolding_all rfl)|refine lo223_is_expr ‹_› ?_|refine ca223_is_sym ‹_› (by with_unfolding_all rfl) (by with_unfolding_all rfl) ?_ (by with_unfolding_all rfl)|refine lo223_is_sym ‹_› ?_))
    exact r_ret S9 kg ⟨fun e => absurd (by rw [e]; decide) q1, fun _ => ⟨_, rfl⟩⟩
end

section
variable {w : World} {A : Around} {s : Shared} {h₀ : Heap}
noncomputable abbrev BoundAt := Holder 254 "assigned" "told_local" "told_global"
theorem evt_once (ls : Ls) (k : Kd) (ns : List Str) : evt ls (k, putO [] ns) = evt ls (k, ns) := by
  cases k <;> simp only [evt, putO_once]
theorem sp_note2 {v : Value} {x a0 a1 a2 : Addr} {hd : Str} {ps ts : List T} {e0 : List Ev} {ls : Ls} (R : Room 6 A) (B : Bs w h₀) (k₀ : h₀.StaysIn s.heap) (ht : TreeAt s.heap v (.node hd ps)) (hs : Sp hd ps e0 ts)
    (hx : BoundAt s.heap x a0 a1 a2) (hL : ∀ p ∈ L3 a0 a1 a2 ls, Has s.heap p ∧ h₀.get? p.1 = none) (N : Ne3 a0 a1 a2) (G : Gds ls) :
    wpAny (model PW w) A (call (.ref 251) [.ref x, v]) (Ret s [a0, a1, a2] fun _ h' => ∀ p ∈ L3 a0 a1 a2 (run e0 ls), Has h' p) NoE s := by
  refine en251 R B k₀ (L3 a0 a1 a2 ls) hL ?_
  intro g L h₁ tk SS hg kg kg' k₁ R'
  have ht' := ht.kg kg (noTup_L3 fun p hp => (hL p hp).1)
  have hx' := hx.but (fun p hp => (hL p hp).1) kg
  have TV := ht'
  cases ht' with
  | @node at_ p _ _ th vs _ h1 h2 h3 =>
  have j1 := h1.keeps SS.F.keep
  refine x_asg ?_ (by rfl)
  repeat (first | tbr_iter "zst" | (with_reducible first|refine lo251_self ‹_› ?_|refine lo251_tree ‹_› ?_|refine lo251_head ‹_› ?_|refine lo251_part ‹_› ?_|refine lo251_place ‹_› ?_|refine lo251_UPDATES ‹_› ?_|refine ca251_put_once ‹_› (by with_unfolding_all rfl) (by with_unfolding_all rfl) ?_ (by with_unfolding_all rfl)|refine lo251_put_once ‹_› ?_|refine ca251_place_names ‹_› (by with_unfolding_all rfl) (by with_unfolding_all rfl) ?_ (by with_unfolding_all rfl)|refine lo251_place_names ‹_› ?_|refine ca251_head_of ‹_› (by with_unfolding_all rfl) (by with_unfolding_all rfl) ?_ (by with_unfolding_all rfl)|refine lo251_head_of ‹_› ?_|refine lo251_FUNCTIONS ‹_› ?_|refine ca251_own_name ‹_› (by with_unfolding_all rfl) (by with_unfolding_all rfl) ?_ (by with_unfolding_all rfl)|refine lo251_own_name ‹_› ?_) | tbr_iter "zit")
  refine so251_head SS ?_
  intro h4 tk4 S4 k4
  have j4 := h1.keeps S4.F.keep
  have j5 := h2.keeps S4.F.keep
  have fin : ∀ {l : LM} {h9 : Heap} {tk9 : Nat} {ls' : Ls}, St w g L l (L3 a0 a1 a2 ls') h9 → ls' = run e0 ls → Ret s [a0, a1, a2] (fun _ h' => ∀ p ∈ L3 a0 a1 a2 (run e0 ls), Has h' p) .none (up s h9 tk9) := fun S9 e =>
    r_ret S9 kg (by subst e; exact fun p hp => (S9.N p hp).1)
  refine x_if ?_
  repeat (first | tbr_iter "zst" | (with_reducible first|refine lo251_self ‹_› ?_|refine lo251_tree ‹_› ?_|refine lo251_head ‹_› ?_|refine lo251_part ‹_› ?_|refine lo251_place ‹_› ?_|refine lo251_UPDATES ‹_› ?_|refine ca251_put_once ‹_› (by with_unfolding_all rfl) (by with_unfolding_all rfl) ?_ (by with_unfolding_all rfl)|refine lo251_put_once ‹_› ?_|refine ca251_place_names ‹_› (by with_unfolding_all rfl) (by with_unfolding_all rfl) ?_ (by with_unfolding_all rfl)|refine lo251_place_names ‹_› ?_|refine ca251_head_of ‹_› (by with_unfolding_all rfl) (by with_unfolding_all rfl) ?_ (by with_unfolding_all rfl)|refine lo251_head_of ‹_› ?_|refine lo251_FUNCTIONS ‹_› ?_|refine ca251_own_name ‹_› (by with_unfolding_all rfl) (by with_unfolding_all rfl) ?_ (by with_unfolding_all rfl)|refine lo251_own_name ‹_› ?_))
  obtain ⟨us5, n5, f5, g5⟩ := g193 w.params
  refine c_int (tup_glob S4.kin f5) g5 ?_
  repeat (first | tbr_iter "zst" | (with_reducible first|refine lo251_self ‹_› ?_|refine lo251_tree ‹_› ?_|refine lo251_head ‹_› ?_|refine lo251_part ‹_› ?_|refine lo251_place ‹_› ?_|refine lo251_UPDATES ‹_› ?_|refine ca251_put_once ‹_› (by with_unfolding_all rfl) (by with_unfolding_all rfl) ?_ (by with_unfolding_all rfl)|refine lo251_put_once ‹_› ?_|refine ca251_place_names ‹_› (by with_unfolding_all rfl) (by with_unfolding_all rfl) ?_ (by with_unfolding_all rfl)|refine lo251_place_names ‹_› ?_|refine ca251_head_of ‹_› (by with_unfolding_all rfl) (by with_unfolding_all rfl) ?_ (by with_unfolding_all rfl)|refine lo251_head_of ‹_› ?_|refine lo251_FUNCTIONS ‹_› ?_|refine ca251_own_name ‹_› (by with_unfolding_all rfl) (by with_unfolding_all rfl) ?_ (by with_unfolding_all rfl)|refine lo251_own_name ‹_› ?_))
  obtain ⟨dx, hxi, hxf⟩ := hx'.mono S4.F.keep
  by_cases q2 : ([S "=", S "+=", S "-=", S "*=", S "//=", S "%=", S "|=", S "&="].any (· == hd)) = true
  · refine ite_pos q2 ?_
    have mo : hd ∈ opsA := (by decide : ∀ y ∈ wordsAll, ([S "=", S "+=", S "-=", S "*=", S "//=", S "%=", S "|=", S "&="].any (· == y)) = true → y ∈ opsA) hd hs.word q2
    obtain ⟨Pl, vv, okP, rfl, rfl⟩ := hs.l_asg mo
    cases h3 with
    | cons s1 i3 =>
    cases i3 with
    | cons s2 i3 =>
    cases i3
    repeat (first | tbr_iter "zst" | (with_reducible first|refine lo251_self ‹_› ?_|refine lo251_tree ‹_› ?_|refine lo251_head ‹_› ?_|refine lo251_part ‹_› ?_|refine lo251_place ‹_› ?_|refine lo251_UPDATES ‹_› ?_|refine ca251_put_once ‹_› (by with_unfolding_all rfl) (by with_unfolding_all rfl) ?_ (by with_unfolding_all rfl)|refine lo251_put_once ‹_› ?_|refine ca251_place_names ‹_› (by with_unfolding_all rfl) (by with_unfolding_all rfl) ?_ (by with_unfolding_all rfl)|refine lo251_place_names ‹_› ?_|refine ca251_head_of ‹_› (by with_unfolding_all rfl) (by with_unfolding_all rfl) ?_ (by with_unfolding_all rfl)|refine lo251_head_of ‹_› ?_|refine lo251_FUNCTIONS ‹_› ?_|refine ca251_own_name ‹_› (by with_unfolding_all rfl) (by with_unfolding_all rfl) ?_ (by with_unfolding_all rfl)|refine lo251_own_name ‹_› ?_) | tbr_iter "zcb")
    refine u_get S4 hxi hxf (ga254_assigned _) (hd254 _) (fa254_assigned _) rfl rfl rfl ?_
    intro tk8
    repeat (first | tbr_iter "zst" | (with_reducible first|refine lo251_self ‹_› ?_|refine lo251_tree ‹_› ?_|refine lo251_head ‹_› ?_|refine lo251_part ‹_› ?_|refine lo251_place ‹_› ?_|refine lo251_UPDATES ‹_› ?_|refine ca251_put_once ‹_› (by with_unfolding_all rfl) (by with_unfolding_all rfl) ?_ (by with_unfolding_all rfl)|refine lo251_put_once ‹_› ?_|refine ca251_place_names ‹_› (by with_unfolding_all rfl) (by with_unfolding_all rfl) ?_ (by with_unfolding_all rfl)|refine lo251_place_names ‹_› ?_|refine ca251_head_of ‹_› (by with_unfolding_all rfl) (by with_unfolding_all rfl) ?_ (by with_unfolding_all rfl)|refine lo251_head_of ‹_› ?_|refine lo251_FUNCTIONS ‹_› ?_|refine ca251_own_name ‹_› (by with_unfolding_all rfl) (by with_unfolding_all rfl) ?_ (by with_unfolding_all rfl)|refine lo251_own_name ‹_› ?_) | tbr_iter "zcb" | tbr_iter "zit")
    refine u_pure S4 (sp_pn (R'.le (by decide)) B (fun b o e => S4.F.keep b o (hg b o e)) (s1.mono (TupKeep.of_stays S4.F.keep))) ?_
    rintro r h9 tk9 k9 S9 ⟨b', rfl, hb, x9⟩
    obtain ⟨us, mm, hus, eb⟩ := x9.strs
    repeat (first | tbr_iter "zst")
    have zx : (putO [] Pl.xs).length ≤ 2 := by have := putO_len (l := []) (ns := Pl.xs); have : Pl.xs.length ≤ 2 := by cases Pl <;> simp [Place.xs]
                                               simp at *; omega
    refine u_put (k := .a) N S9 rfl (sp_put_once (R'.le (by decide)) B (fun b o e => S9.F.keep b o (hg b o e)) (S9.N _ (.head _)).1 (hL _ (.head _)).2 (b := b') ⟨_, eb, rfl, _, rfl⟩ hus (fun q => by obtain ⟨o, e, _⟩ := (S4.N _ (.head _)).1; have hb' : h4.get? b' = none := hb; rw [← q, show h4.get? a0 = some o from e] at hb'; cases hb') (by have := G.1.len; show ls.1.length + _ ≤ 9000; omega)) ?_
    intro r h10 tk10 S10
    repeat (first | tbr_iter "zst")
    exact retK_next (fin S10 (by rw [evt_once]; rfl))
  refine ite_neg q2 ?_
  refine x_if ?_
  refine r_mid (s := s) (fun c h => c = ([S "local", S "global"].any (· == hd)) ∧ St w g L (V251 (some (.ref x)) (some (.ref at_)) (some (.str hd th)) none none) (L3 a0 a1 a2 ls) h) ?_ ?_
  · repeat (first | tbr_iter "zst" | (with_reducible first|refine lo251_self ‹_› ?_|refine lo251_tree ‹_› ?_|refine lo251_head ‹_› ?_|refine lo251_part ‹_› ?_|refine lo251_place ‹_› ?_|refine lo251_UPDATES ‹_› ?_|refine ca251_put_once ‹_› (by with_unfolding_all rfl) (by with_unfolding_all rfl) ?_ (by with_unfolding_all rfl)|refine lo251_put_once ‹_› ?_|refine ca251_place_names ‹_› (by with_unfolding_all rfl) (by with_unfolding_all rfl) ?_ (by with_unfolding_all rfl)|refine lo251_place_names ‹_› ?_|refine ca251_head_of ‹_› (by with_unfolding_all rfl) (by with_unfolding_all rfl) ?_ (by with_unfolding_all rfl)|refine lo251_head_of ‹_› ?_|refine lo251_FUNCTIONS ‹_› ?_|refine ca251_own_name ‹_› (by with_unfolding_all rfl) (by with_unfolding_all rfl) ?_ (by with_unfolding_all rfl)|refine lo251_own_name ‹_› ?_))
    by_cases c1 : (hd == S "local") = true
    · refine ite_pos c1 ?_
      exact ⟨_, _, rfl, by rw [eq_of_beq c1]; decide, S4⟩
    refine ite_neg c1 ?_
    repeat (first | tbr_iter "zst" | (with_reducible first|refine lo251_self ‹_› ?_|refine lo251_tree ‹_› ?_|refine lo251_head ‹_› ?_|refine lo251_part ‹_› ?_|refine lo251_place ‹_› ?_|refine lo251_UPDATES ‹_› ?_|refine ca251_put_once ‹_› (by with_unfolding_all rfl) (by with_unfolding_all rfl) ?_ (by with_unfolding_all rfl)|refine lo251_put_once ‹_› ?_|refine ca251_place_names ‹_› (by with_unfolding_all rfl) (by with_unfolding_all rfl) ?_ (by with_unfolding_all rfl)|refine lo251_place_names ‹_› ?_|refine ca251_head_of ‹_› (by with_unfolding_all rfl) (by with_unfolding_all rfl) ?_ (by with_unfolding_all rfl)|refine lo251_head_of ‹_› ?_|refine lo251_FUNCTIONS ‹_› ?_|refine ca251_own_name ‹_› (by with_unfolding_all rfl) (by with_unfolding_all rfl) ?_ (by with_unfolding_all rfl)|refine lo251_own_name ‹_› ?_))
    by_cases c2 : (hd == S "global") = true
    · refine ite_pos c2 ?_
      exact ⟨_, _, rfl, by rw [eq_of_beq c2]; decide, S4⟩
    refine ite_neg c2 ?_
    repeat (first | tbr_iter "zst" | (with_reducible first|refine lo251_self ‹_› ?_|refine lo251_tree ‹_› ?_|refine lo251_head ‹_› ?_|refine lo251_part ‹_› ?_|refine lo251_place ‹_› ?_|refine lo251_UPDATES ‹_› ?_|refine ca251_put_once ‹_› (by with_unfolding_all rfl) (by with_unfolding_all rfl) ?_ (by with_unfolding_all rfl)|refine lo251_put_once ‹_› ?_|refine ca251_place_names ‹_› (by with_unfolding_all rfl) (by with_unfolding_all rfl) ?_ (by with_unfolding_all rfl)|refine lo251_place_names ‹_› ?_|refine ca251_head_of ‹_› (by with_unfolding_all rfl) (by with_unfolding_all rfl) ?_ (by with_unfolding_all rfl)|refine lo251_head_of ‹_› ?_|refine lo251_FUNCTIONS ‹_› ?_|refine ca251_own_name ‹_› (by with_unfolding_all rfl) (by with_unfolding_all rfl) ?_ (by with_unfolding_all rfl)|refine lo251_own_name ‹_› ?_))
    refine ⟨_, _, rfl, ?_, S4⟩
    cases e : [S "local", S "global"].any (· == hd) with
    | false => rfl
    | true =>
      rcases List.mem_cons.mp (any_mem e) with e | e
      · exact absurd e (beq_not c1)
      · exact absurd (List.mem_singleton.mp e) (beq_not c2)
  clear S4 j4 j5 hxi hxf
  rintro c h4 tk4 ⟨rfl, S4⟩
  have j4 := h1.keeps S4.F.keep
  have j5 := h2.keeps S4.F.keep
  by_cases q3 : ([S "local", S "global"].any (· == hd)) = true
  · refine ite_pos q3 ?_
    obtain ⟨b, rfl⟩ : ∃ b, hd = wrd b := by
      rcases List.mem_cons.mp (any_mem q3) with e | e
      · exact ⟨true, e⟩
      · exact ⟨false, List.mem_singleton.mp e⟩
    obtain ⟨z, tt, htt, hz, rfl, rfl⟩ := hs.l_told rfl
    cases h3 with
    | @cons v1 _ _ _ t1 h3 =>
    cases h3
    refine x_cons ?_
    refine r_for ?_ (by intro x; with_unfolding_all rfl)
    repeat (first | tbr_iter "zst" | (with_reducible first|refine lo251_self ‹_› ?_|refine lo251_tree ‹_› ?_|refine lo251_head ‹_› ?_|refine lo251_part ‹_› ?_|refine lo251_place ‹_› ?_|refine lo251_UPDATES ‹_› ?_|refine ca251_put_once ‹_› (by with_unfolding_all rfl) (by with_unfolding_all rfl) ?_ (by with_unfolding_all rfl)|refine lo251_put_once ‹_› ?_|refine ca251_place_names ‹_› (by with_unfolding_all rfl) (by with_unfolding_all rfl) ?_ (by with_unfolding_all rfl)|refine lo251_place_names ‹_› ?_|refine ca251_head_of ‹_› (by with_unfolding_all rfl) (by with_unfolding_all rfl) ?_ (by with_unfolding_all rfl)|refine lo251_head_of ‹_› ?_|refine lo251_FUNCTIONS ‹_› ?_|refine ca251_own_name ‹_› (by with_unfolding_all rfl) (by with_unfolding_all rfl) ?_ (by with_unfolding_all rfl)|refine lo251_own_name ‹_› ?_) | tbr_iter "zit")
    refine ⟨h4, _, [p], 1, _, rfl, IterOf.tup R'.1 j5, fun I hI => ?_⟩
    have IL : I ≠ L := fun q => S4.low (q ▸ hI)
    obtain ⟨op, ep, cp, np, dp⟩ := id h2
    have pL : p ≠ L := fun q => by have := S4.gL; rw [← q, ep] at this; cases this
    have nW : ∀ b ∈ [I, p], b ∉ [a0, a1, a2] := by
      intro b hb q
      obtain ⟨o, e, c⟩ := listAt (fun p hp => (S4.N p hp).1) q
      rcases List.mem_cons.mp hb with rfl | hb
      · rw [hI] at e; cases e
      · rw [List.mem_singleton.mp hb, S4.F.keep _ _ ep] at e; cases e; rw [cp] at c; exact absurd (Value.type.inj c) (by decide)
    have nL : ∀ b ∈ [I, p], b ≠ L := by
      intro b hb
      rcases List.mem_cons.mp hb with rfl | hb
      · exact IL
      · rw [List.mem_singleton.mp hb]; exact pL
    refine ⟨fun i h => ∃ o1 o2, St w g L (V251 (some (.ref x)) (some (.ref at_)) (some (.str (wrd b) th)) o1 o2) (L3 a0 a1 a2 (if i = 0 then ls else evt ls (kd b, [z]))) h, fun h2 k2 => ⟨none, none, S4.keeps k2⟩, ?_, ?_, ?_⟩
    · rintro i h h' ⟨o1, o2, J⟩ hT k
      refine ⟨o1, o2, S4.off (X := [I]) (fun i hi => by rw [List.mem_singleton.mp hi]; exact hI) J (fun q hq => ?_) k⟩
      rcases List.mem_cons.mp hq with rfl | hq
      · exact ⟨_, .head _⟩
      · rcases List.mem_cons.mp hq with rfl | hq
        · exact ⟨_, .tail _ (.head _)⟩
        · rw [List.mem_singleton.mp hq]; exact ⟨_, .tail _ (.tail _ (.head _))⟩
    · rintro i v h tk14 hi hP ⟨o1, o2, J⟩ hex
      obtain rfl : i = 0 := by omega
      cases hP
      rw [if_pos rfl] at J
      refine so251_part J ?_
      intro h3 tk3 S3 k3
      refine x_asg ?_ (by with_unfolding_all rfl)
      refine r_mid (s := up s h4 tk4) (fun v h4 => TreeAt g v (.sym z) ∧ h3.StaysIn h4 ∧ St w g L (V251 (some (.ref x)) (some (.ref at_)) (some (.str (wrd b) th)) (some v1) o2) (L3 a0 a1 a2 ls) h4) ?_ ?_
      · repeat (first | tbr_iter "zst" | (with_reducible first|refine lo251_self ‹_› ?_|refine lo251_tree ‹_› ?_|refine lo251_head ‹_› ?_|refine lo251_part ‹_› ?_|refine lo251_place ‹_› ?_|refine lo251_UPDATES ‹_› ?_|refine ca251_put_once ‹_› (by with_unfolding_all rfl) (by with_unfolding_all rfl) ?_ (by with_unfolding_all rfl)|refine lo251_put_once ‹_› ?_|refine ca251_place_names ‹_› (by with_unfolding_all rfl) (by with_unfolding_all rfl) ?_ (by with_unfolding_all rfl)|refine lo251_place_names ‹_› ?_|refine ca251_head_of ‹_› (by with_unfolding_all rfl) (by with_unfolding_all rfl) ?_ (by with_unfolding_all rfl)|refine lo251_head_of ‹_› ?_|refine lo251_FUNCTIONS ‹_› ?_|refine ca251_own_name ‹_› (by with_unfolding_all rfl) (by with_unfolding_all rfl) ?_ (by with_unfolding_all rfl)|refine lo251_own_name ‹_› ?_))
        refine u_pure S3 (sp_head_of (R'.le (by decide)) B (fun b o e => S3.F.keep b o (hg b o e)) (t1.mono (TupKeep.of_stays S3.F.keep))) ?_
        rintro r h5 tk5 k5 S5 ⟨th5, rfl⟩
        repeat (first | tbr_iter "zst" | (with_reducible first|refine lo251_self ‹_› ?_|refine lo251_tree ‹_› ?_|refine lo251_head ‹_› ?_|refine lo251_part ‹_› ?_|refine lo251_place ‹_› ?_|refine lo251_UPDATES ‹_› ?_|refine ca251_put_once ‹_› (by with_unfolding_all rfl) (by with_unfolding_all rfl) ?_ (by with_unfolding_all rfl)|refine lo251_put_once ‹_› ?_|refine ca251_place_names ‹_› (by with_unfolding_all rfl) (by with_unfolding_all rfl) ?_ (by with_unfolding_all rfl)|refine lo251_place_names ‹_› ?_|refine ca251_head_of ‹_› (by with_unfolding_all rfl) (by with_unfolding_all rfl) ?_ (by with_unfolding_all rfl)|refine lo251_head_of ‹_› ?_|refine lo251_FUNCTIONS ‹_› ?_|refine ca251_own_name ‹_› (by with_unfolding_all rfl) (by with_unfolding_all rfl) ?_ (by with_unfolding_all rfl)|refine lo251_own_name ‹_› ?_))
        obtain ⟨us6, n6, f6, g6⟩ := g193 w.params
        refine c_int (tup_glob S5.kin f6) g6 ?_
        repeat (first | tbr_iter "zst" | (with_reducible first|refine lo251_self ‹_› ?_|refine lo251_tree ‹_› ?_|refine lo251_head ‹_› ?_|refine lo251_part ‹_› ?_|refine lo251_place ‹_› ?_|refine lo251_UPDATES ‹_› ?_|refine ca251_put_once ‹_› (by with_unfolding_all rfl) (by with_unfolding_all rfl) ?_ (by with_unfolding_all rfl)|refine lo251_put_once ‹_› ?_|refine ca251_place_names ‹_› (by with_unfolding_all rfl) (by with_unfolding_all rfl) ?_ (by with_unfolding_all rfl)|refine lo251_place_names ‹_› ?_|refine ca251_head_of ‹_› (by with_unfolding_all rfl) (by with_unfolding_all rfl) ?_ (by with_unfolding_all rfl)|refine lo251_head_of ‹_› ?_|refine lo251_FUNCTIONS ‹_› ?_|refine ca251_own_name ‹_› (by with_unfolding_all rfl) (by with_unfolding_all rfl) ?_ (by with_unfolding_all rfl)|refine lo251_own_name ‹_› ?_))
        rcases htt with rfl | rfl
        · refine ite_neg (ne_of_bool (by kernel_rfl)) ?_
          repeat (first | tbr_iter "zst" | (with_reducible first|refine lo251_self ‹_› ?_|refine lo251_tree ‹_› ?_|refine lo251_head ‹_› ?_|refine lo251_part ‹_› ?_|refine lo251_place ‹_› ?_|refine lo251_UPDATES ‹_› ?_|refine ca251_put_once ‹_› (by with_unfolding_all rfl) (by with_unfolding_all rfl) ?_ (by with_unfolding_all rfl)|refine lo251_put_once ‹_› ?_|refine ca251_place_names ‹_› (by with_unfolding_all rfl) (by with_unfolding_all rfl) ?_ (by with_unfolding_all rfl)|refine lo251_place_names ‹_› ?_|refine ca251_head_of ‹_› (by with_unfolding_all rfl) (by with_unfolding_all rfl) ?_ (by with_unfolding_all rfl)|refine lo251_head_of ‹_› ?_|refine lo251_FUNCTIONS ‹_› ?_|refine ca251_own_name ‹_› (by with_unfolding_all rfl) (by with_unfolding_all rfl) ?_ (by with_unfolding_all rfl)|refine lo251_own_name ‹_› ?_))
          exact ⟨_, _, rfl, t1, k5, S5⟩
        · refine ite_pos (by kernel_rfl) ?_
          cases t1 with
          | node i1 i2 i3 =>
          cases i3 with
          | cons s1 i3 =>
          cases i3 with
          | cons s2 i3 =>
          cases i3
          have j6 := i1.keeps S5.F.keep
          have j7 := i2.keeps S5.F.keep
          repeat (first | tbr_iter "zst" | (with_reducible first|refine lo251_self ‹_› ?_|refine lo251_tree ‹_› ?_|refine lo251_head ‹_› ?_|refine lo251_part ‹_› ?_|refine lo251_place ‹_› ?_|refine lo251_UPDATES ‹_› ?_|refine ca251_put_once ‹_› (by with_unfolding_all rfl) (by with_unfolding_all rfl) ?_ (by with_unfolding_all rfl)|refine lo251_put_once ‹_› ?_|refine ca251_place_names ‹_› (by with_unfolding_all rfl) (by with_unfolding_all rfl) ?_ (by with_unfolding_all rfl)|refine lo251_place_names ‹_› ?_|refine ca251_head_of ‹_› (by with_unfolding_all rfl) (by with_unfolding_all rfl) ?_ (by with_unfolding_all rfl)|refine lo251_head_of ‹_› ?_|refine lo251_FUNCTIONS ‹_› ?_|refine ca251_own_name ‹_› (by with_unfolding_all rfl) (by with_unfolding_all rfl) ?_ (by with_unfolding_all rfl)|refine lo251_own_name ‹_› ?_) | tbr_iter "zit")
          exact ⟨_, _, rfl, s1, k5, S5⟩
      rintro v h4' tk4' ⟨tv, k4', S4'⟩
      refine so251_place S4' ?_
      intro h5 tk5 S5 k5
      have tv5 := tv.mono (TupKeep.of_stays S5.F.keep)
      obtain ⟨dx, hxi, hxf⟩ := hx'.mono S5.F.keep
      cases b with
      | true =>
      repeat (first | tbr_iter "zst" | (with_reducible first|refine lo251_self ‹_› ?_|refine lo251_tree ‹_› ?_|refine lo251_head ‹_› ?_|refine lo251_part ‹_› ?_|refine lo251_place ‹_› ?_|refine lo251_UPDATES ‹_› ?_|refine ca251_put_once ‹_› (by with_unfolding_all rfl) (by with_unfolding_all rfl) ?_ (by with_unfolding_all rfl)|refine lo251_put_once ‹_› ?_|refine ca251_place_names ‹_› (by with_unfolding_all rfl) (by with_unfolding_all rfl) ?_ (by with_unfolding_all rfl)|refine lo251_place_names ‹_› ?_|refine ca251_head_of ‹_› (by with_unfolding_all rfl) (by with_unfolding_all rfl) ?_ (by with_unfolding_all rfl)|refine lo251_head_of ‹_› ?_|refine lo251_FUNCTIONS ‹_› ?_|refine ca251_own_name ‹_› (by with_unfolding_all rfl) (by with_unfolding_all rfl) ?_ (by with_unfolding_all rfl)|refine lo251_own_name ‹_› ?_) | tbr_iter "zcb" | tbr_iter "zif")
      refine u_get S5 hxi hxf (ga254_told_local _) (hd254 _) (fa254_told_local _) rfl rfl rfl ?_
      intro tk6
      repeat (first | tbr_iter "zst" | (with_reducible first|refine lo251_self ‹_› ?_|refine lo251_tree ‹_› ?_|refine lo251_head ‹_› ?_|refine lo251_part ‹_› ?_|refine lo251_place ‹_› ?_|refine lo251_UPDATES ‹_› ?_|refine ca251_put_once ‹_› (by with_unfolding_all rfl) (by with_unfolding_all rfl) ?_ (by with_unfolding_all rfl)|refine lo251_put_once ‹_› ?_|refine ca251_place_names ‹_› (by with_unfolding_all rfl) (by with_unfolding_all rfl) ?_ (by with_unfolding_all rfl)|refine lo251_place_names ‹_› ?_|refine ca251_head_of ‹_› (by with_unfolding_all rfl) (by with_unfolding_all rfl) ?_ (by with_unfolding_all rfl)|refine lo251_head_of ‹_› ?_|refine lo251_FUNCTIONS ‹_› ?_|refine ca251_own_name ‹_› (by with_unfolding_all rfl) (by with_unfolding_all rfl) ?_ (by with_unfolding_all rfl)|refine lo251_own_name ‹_› ?_) | tbr_iter "zcb")
      refine u_pure S5 (sp_pn_sym (R'.le (by decide)) B (fun b o e => S5.F.keep b o (hg b o e)) tv5) ?_
      rintro r h6 tk6 k6 S6 ⟨b', rfl, hb, x6⟩
      obtain ⟨us, m, hus, eb⟩ := x6.strs
      repeat (first | tbr_iter "zst")
      refine u_putk (k := .l) (ns := [z]) N S6 rfl (sp_put_once (R'.le (by decide)) B (fun b o e => S6.F.keep b o (hg b o e)) (S6.N _ (.tail _ (.head _))).1 (hL _ (.tail _ (.head _))).2 (b := b') ⟨_, eb, rfl, _, rfl⟩ hus (fun q => by obtain ⟨o, e, _⟩ := (S5.N _ (.tail _ (.head _))).1; have hb' : h5.get? b' = none := hb; rw [← q, show h5.get? a1 = some o from e] at hb'; cases hb') (by have := G.2.1.len; show ls.2.1.length + 1 ≤ 9000; omega)) ?_
      intro r h7 tk7 S7 k7
      repeat (first | tbr_iter "zst")
      refine forK_next (fun c hc o e => k7 c o (nW c hc) (k6 c o (k5 c o (nL c hc) (k4' c o (k3 c o (nL c hc) e))))) ⟨_, _, by rw [if_neg (by decide)]; exact S7⟩
      | false =>
      repeat (first | tbr_iter "zst" | (with_reducible first|refine lo251_self ‹_› ?_|refine lo251_tree ‹_› ?_|refine lo251_head ‹_› ?_|refine lo251_part ‹_› ?_|refine lo251_place ‹_› ?_|refine lo251_UPDATES ‹_› ?_|refine ca251_put_once ‹_› (by with_unfolding_all rfl) (by with_unfolding_all rfl) ?_ (by with_unfolding_all rfl)|refine lo251_put_once ‹_› ?_|refine ca251_place_names ‹_› (by with_unfolding_all rfl) (by with_unfolding_all rfl) ?_ (by with_unfolding_all rfl)|refine lo251_place_names ‹_› ?_|refine ca251_head_of ‹_› (by with_unfolding_all rfl) (by with_unfolding_all rfl) ?_ (by with_unfolding_all rfl)|refine lo251_head_of ‹_› ?_|refine lo251_FUNCTIONS ‹_› ?_|refine ca251_own_name ‹_› (by with_unfolding_all rfl) (by with_unfolding_all rfl) ?_ (by with_unfolding_all rfl)|refine lo251_own_name ‹_› ?_) | tbr_iter "zcb" | tbr_iter "zif")
      refine u_get S5 hxi hxf (ga254_told_global _) (hd254 _) (fa254_told_global _) rfl rfl rfl ?_
      intro tk6
      repeat (first | tbr_iter "zst" | (with_reducible first|refine lo251_self ‹_› ?_|refine lo251_tree ‹_› ?_|refine lo251_head ‹_› ?_|refine lo251_part ‹_› ?_|refine lo251_place ‹_› ?_|refine lo251_UPDATES ‹_› ?_|refine ca251_put_once ‹_› (by with_unfolding_all rfl) (by with_unfolding_all rfl) ?_ (by with_unfolding_all rfl)|refine lo251_put_once ‹_› ?_|refine ca251_place_names ‹_› (by with_unfolding_all rfl) (by with_unfolding_all rfl) ?_ (by with_unfolding_all rfl)|refine lo251_place_names ‹_› ?_|refine ca251_head_of ‹_› (by with_unfolding_all rfl) (by with_unfolding_all rfl) ?_ (by with_unfolding_all rfl)|refine lo251_head_of ‹_› ?_|refine lo251_FUNCTIONS ‹_› ?_|refine ca251_own_name ‹_› (by with_unfolding_all rfl) (by with_unfolding_all rfl) ?_ (by with_unfolding_all rfl)|refine lo251_own_name ‹_› ?_) | tbr_iter "zcb")
      refine u_pure S5 (sp_pn_sym (R'.le (by decide)) B (fun b o e => S5.F.keep b o (hg b o e)) tv5) ?_
      rintro r h6 tk6 k6 S6 ⟨b', rfl, hb, x6⟩
      obtain ⟨us, m, hus, eb⟩ := x6.strs
      repeat (first | tbr_iter "zst")
      refine u_putk (k := .g) (ns := [z]) N S6 rfl (sp_put_once (R'.le (by decide)) B (fun b o e => S6.F.keep b o (hg b o e)) (S6.N _ (.tail _ (.tail _ (.head _)))).1 (hL _ (.tail _ (.tail _ (.head _)))).2 (b := b') ⟨_, eb, rfl, _, rfl⟩ hus (fun q => by obtain ⟨o, e, _⟩ := (S5.N _ (.tail _ (.tail _ (.head _)))).1; have hb' : h5.get? b' = none := hb; rw [← q, show h5.get? a2 = some o from e] at hb'; cases hb') (by have := G.2.2.len; show ls.2.2.length + 1 ≤ 9000; omega)) ?_
      intro r h7 tk7 S7 k7
      repeat (first | tbr_iter "zst")
      refine forK_next (fun c hc o e => k7 c o (nW c hc) (k6 c o (k5 c o (nL c hc) (k4' c o (k3 c o (nL c hc) e))))) ⟨_, _, by rw [if_neg (by decide)]; exact S7⟩
    · rintro h tk14 ⟨o1, o2, J⟩
      rw [if_neg (by decide)] at J
      repeat (first | tbr_iter "zst")
      exact retK_next (fin J rfl)
  refine ite_neg q3 ?_
  repeat (first | tbr_iter "zst" | (with_reducible first|refine lo251_self ‹_› ?_|refine lo251_tree ‹_› ?_|refine lo251_head ‹_› ?_|refine lo251_part ‹_› ?_|refine lo251_place ‹_› ?_|refine lo251_UPDATES ‹_› ?_|refine ca251_put_once ‹_› (by with_unfolding_all rfl) (by with_unfolding_all rfl) ?_ (by with_unfolding_all rfl)|refine lo251_put_once ‹_› ?_|refine ca251_place_names ‹_› (by with_unfolding_all rfl) (by with_unfolding_all rfl) ?_ (by with_unfolding_all rfl)|refine lo251_place_names ‹_› ?_|refine ca251_head_of ‹_› (by with_unfolding_all rfl) (by with_unfolding_all rfl) ?_ (by with_unfolding_all rfl)|refine lo251_head_of ‹_› ?_|refine lo251_FUNCTIONS ‹_› ?_|refine ca251_own_name ‹_› (by with_unfolding_all rfl) (by with_unfolding_all rfl) ?_ (by with_unfolding_all rfl)|refine lo251_own_name ‹_› ?_))
  obtain ⟨us7, n7, f7, g7⟩ := g194 w.params
  refine c_int (tup_glob S4.kin f7) g7 ?_
  repeat (first | tbr_iter "zst" | (with_reducible first|refine lo251_self ‹_› ?_|refine lo251_tree ‹_› ?_|refine lo251_head ‹_› ?_|refine lo251_part ‹_› ?_|refine lo251_place ‹_› ?_|refine lo251_UPDATES ‹_› ?_|refine ca251_put_once ‹_› (by with_unfolding_all rfl) (by with_unfolding_all rfl) ?_ (by with_unfolding_all rfl)|refine lo251_put_once ‹_› ?_|refine ca251_place_names ‹_› (by with_unfolding_all rfl) (by with_unfolding_all rfl) ?_ (by with_unfolding_all rfl)|refine lo251_place_names ‹_› ?_|refine ca251_head_of ‹_› (by with_unfolding_all rfl) (by with_unfolding_all rfl) ?_ (by with_unfolding_all rfl)|refine lo251_head_of ‹_› ?_|refine lo251_FUNCTIONS ‹_› ?_|refine ca251_own_name ‹_› (by with_unfolding_all rfl) (by with_unfolding_all rfl) ?_ (by with_unfolding_all rfl)|refine lo251_own_name ‹_› ?_))
  have nope : hd ≠ S "function" → e0 = [] := fun q => hs.l_none (fun q => q2 ((by decide : ∀ y ∈ opsA, ([S "=", S "+=", S "-=", S "*=", S "//=", S "%=", S "|=", S "&="].any (· == y)) = true) hd q)) (fun b e => q3 (by rw [e]; cases b <;> decide)) q
  by_cases q4 : ([S "function", S "->", S "do", S "generated"].any (· == hd)) = true
  · refine ite_pos q4 ?_
    repeat (first | tbr_iter "zst" | (with_reducible first|refine lo251_self ‹_› ?_|refine lo251_tree ‹_› ?_|refine lo251_head ‹_› ?_|refine lo251_part ‹_› ?_|refine lo251_place ‹_› ?_|refine lo251_UPDATES ‹_› ?_|refine ca251_put_once ‹_› (by with_unfolding_all rfl) (by with_unfolding_all rfl) ?_ (by with_unfolding_all rfl)|refine lo251_put_once ‹_› ?_|refine ca251_place_names ‹_› (by with_unfolding_all rfl) (by with_unfolding_all rfl) ?_ (by with_unfolding_all rfl)|refine lo251_place_names ‹_› ?_|refine ca251_head_of ‹_› (by with_unfolding_all rfl) (by with_unfolding_all rfl) ?_ (by with_unfolding_all rfl)|refine lo251_head_of ‹_› ?_|refine lo251_FUNCTIONS ‹_› ?_|refine ca251_own_name ‹_› (by with_unfolding_all rfl) (by with_unfolding_all rfl) ?_ (by with_unfolding_all rfl)|refine lo251_own_name ‹_› ?_))
    refine u_pure S4 (sp_oname (R'.le (by decide)) B (fun b o e => S4.F.keep b o (hg b o e)) (TV.mono (TupKeep.of_stays S4.F.keep)) hs) ?_
    rintro r h5 tk5 k5 S5 ⟨r1, r2⟩
    by_cases qf : hd = S "function"
    · obtain ⟨z, tz, hz, rfl, rfl⟩ := r1 qf
      repeat (first | tbr_iter "zst" | (with_reducible first|refine lo251_self ‹_› ?_|refine lo251_tree ‹_› ?_|refine lo251_head ‹_› ?_|refine lo251_part ‹_› ?_|refine lo251_place ‹_› ?_|refine lo251_UPDATES ‹_› ?_|refine ca251_put_once ‹_› (by with_unfolding_all rfl) (by with_unfolding_all rfl) ?_ (by with_unfolding_all rfl)|refine lo251_put_once ‹_› ?_|refine ca251_place_names ‹_› (by with_unfolding_all rfl) (by with_unfolding_all rfl) ?_ (by with_unfolding_all rfl)|refine lo251_place_names ‹_› ?_|refine ca251_head_of ‹_› (by with_unfolding_all rfl) (by with_unfolding_all rfl) ?_ (by with_unfolding_all rfl)|refine lo251_head_of ‹_› ?_|refine lo251_FUNCTIONS ‹_› ?_|refine ca251_own_name ‹_› (by with_unfolding_all rfl) (by with_unfolding_all rfl) ?_ (by with_unfolding_all rfl)|refine lo251_own_name ‹_› ?_))
      refine ite_pos ((by decide : ∀ y ∈ names, (!(y == S "")) = true) z hz) ?_
      repeat (first | tbr_iter "zst" | (with_reducible first|refine lo251_self ‹_› ?_|refine lo251_tree ‹_› ?_|refine lo251_head ‹_› ?_|refine lo251_part ‹_› ?_|refine lo251_place ‹_› ?_|refine lo251_UPDATES ‹_› ?_|refine ca251_put_once ‹_› (by with_unfolding_all rfl) (by with_unfolding_all rfl) ?_ (by with_unfolding_all rfl)|refine lo251_put_once ‹_› ?_|refine ca251_place_names ‹_› (by with_unfolding_all rfl) (by with_unfolding_all rfl) ?_ (by with_unfolding_all rfl)|refine lo251_place_names ‹_› ?_|refine ca251_head_of ‹_› (by with_unfolding_all rfl) (by with_unfolding_all rfl) ?_ (by with_unfolding_all rfl)|refine lo251_head_of ‹_› ?_|refine lo251_FUNCTIONS ‹_› ?_|refine ca251_own_name ‹_› (by with_unfolding_all rfl) (by with_unfolding_all rfl) ?_ (by with_unfolding_all rfl)|refine lo251_own_name ‹_› ?_) | tbr_iter "zif")
      obtain ⟨dx, hxi, hxf⟩ := hx'.mono S5.F.keep
      repeat (first | tbr_iter "zst" | (with_reducible first|refine lo251_self ‹_› ?_|refine lo251_tree ‹_› ?_|refine lo251_head ‹_› ?_|refine lo251_part ‹_› ?_|refine lo251_place ‹_› ?_|refine lo251_UPDATES ‹_› ?_|refine ca251_put_once ‹_› (by with_unfolding_all rfl) (by with_unfolding_all rfl) ?_ (by with_unfolding_all rfl)|refine lo251_put_once ‹_› ?_|refine ca251_place_names ‹_› (by with_unfolding_all rfl) (by with_unfolding_all rfl) ?_ (by with_unfolding_all rfl)|refine lo251_place_names ‹_› ?_|refine ca251_head_of ‹_› (by with_unfolding_all rfl) (by with_unfolding_all rfl) ?_ (by with_unfolding_all rfl)|refine lo251_head_of ‹_› ?_|refine lo251_FUNCTIONS ‹_› ?_|refine ca251_own_name ‹_› (by with_unfolding_all rfl) (by with_unfolding_all rfl) ?_ (by with_unfolding_all rfl)|refine lo251_own_name ‹_› ?_) | tbr_iter "zcb")
      refine u_get S5 hxi hxf (ga254_assigned _) (hd254 _) (fa254_assigned _) rfl rfl rfl ?_
      intro tk6
      repeat (first | tbr_iter "zst" | (with_reducible first|refine lo251_self ‹_› ?_|refine lo251_tree ‹_› ?_|refine lo251_head ‹_› ?_|refine lo251_part ‹_› ?_|refine lo251_place ‹_› ?_|refine lo251_UPDATES ‹_› ?_|refine ca251_put_once ‹_› (by with_unfolding_all rfl) (by with_unfolding_all rfl) ?_ (by with_unfolding_all rfl)|refine lo251_put_once ‹_› ?_|refine ca251_place_names ‹_› (by with_unfolding_all rfl) (by with_unfolding_all rfl) ?_ (by with_unfolding_all rfl)|refine lo251_place_names ‹_› ?_|refine ca251_head_of ‹_› (by with_unfolding_all rfl) (by with_unfolding_all rfl) ?_ (by with_unfolding_all rfl)|refine lo251_head_of ‹_› ?_|refine lo251_FUNCTIONS ‹_› ?_|refine ca251_own_name ‹_› (by with_unfolding_all rfl) (by with_unfolding_all rfl) ?_ (by with_unfolding_all rfl)|refine lo251_own_name ‹_› ?_) | tbr_iter "zcb")
      refine u_pure S5 (sp_oname (R'.le (by decide)) B (fun b o e => S5.F.keep b o (hg b o e)) (TV.mono (TupKeep.of_stays S5.F.keep)) hs) ?_
      rintro r h6 tk6 k6 S6 ⟨r1', _⟩
      obtain ⟨z', tz', hz', ez, rfl⟩ := r1' qf
      repeat (first | tbr_iter "zst" | (with_reducible first|refine lo251_self ‹_› ?_|refine lo251_tree ‹_› ?_|refine lo251_head ‹_› ?_|refine lo251_part ‹_› ?_|refine lo251_place ‹_› ?_|refine lo251_UPDATES ‹_› ?_|refine ca251_put_once ‹_› (by with_unfolding_all rfl) (by with_unfolding_all rfl) ?_ (by with_unfolding_all rfl)|refine lo251_put_once ‹_› ?_|refine ca251_place_names ‹_› (by with_unfolding_all rfl) (by with_unfolding_all rfl) ?_ (by with_unfolding_all rfl)|refine lo251_place_names ‹_› ?_|refine ca251_head_of ‹_› (by with_unfolding_all rfl) (by with_unfolding_all rfl) ?_ (by with_unfolding_all rfl)|refine lo251_head_of ‹_› ?_|refine lo251_FUNCTIONS ‹_› ?_|refine ca251_own_name ‹_› (by with_unfolding_all rfl) (by with_unfolding_all rfl) ?_ (by with_unfolding_all rfl)|refine lo251_own_name ‹_› ?_))
      refine r_newList ?_ (by exact Nat.le_of_ble_eq_true rfl)
      intro h7 b' k7 eb7 e7
      have S7 := S6.keeps k7
      repeat (first | tbr_iter "zst" | (with_reducible first|refine lo251_self ‹_› ?_|refine lo251_tree ‹_› ?_|refine lo251_head ‹_› ?_|refine lo251_part ‹_› ?_|refine lo251_place ‹_› ?_|refine lo251_UPDATES ‹_› ?_|refine ca251_put_once ‹_› (by with_unfolding_all rfl) (by with_unfolding_all rfl) ?_ (by with_unfolding_all rfl)|refine lo251_put_once ‹_› ?_|refine ca251_place_names ‹_› (by with_unfolding_all rfl) (by with_unfolding_all rfl) ?_ (by with_unfolding_all rfl)|refine lo251_place_names ‹_› ?_|refine ca251_head_of ‹_› (by with_unfolding_all rfl) (by with_unfolding_all rfl) ?_ (by with_unfolding_all rfl)|refine lo251_head_of ‹_› ?_|refine lo251_FUNCTIONS ‹_› ?_|refine ca251_own_name ‹_› (by with_unfolding_all rfl) (by with_unfolding_all rfl) ?_ (by with_unfolding_all rfl)|refine lo251_own_name ‹_› ?_))
      refine u_put (k := .a) (ns := [z']) N S7 rfl (sp_put_once (R'.le (by decide)) B (fun b o e => S7.F.keep b o (hg b o e)) (S7.N _ (.head _)).1 (hL _ (.head _)).2 (b := b') ⟨_, e7, rfl, _, rfl⟩ (.cons _ _ .nil) (fun q => S6.fresh.2.2 _ (.head _) (q.trans eb7)) (by have := G.1.len; show ls.1.length + 1 ≤ 9000; omega)) ?_
      intro r h10 tk10 S10
      repeat (first | tbr_iter "zst")
      exact retK_next (fin S10 (by rw [ez]; rfl))
    · obtain ⟨tz, rfl⟩ := r2 qf
      repeat (first | tbr_iter "zst" | (with_reducible first|refine lo251_self ‹_› ?_|refine lo251_tree ‹_› ?_|refine lo251_head ‹_› ?_|refine lo251_part ‹_› ?_|refine lo251_place ‹_› ?_|refine lo251_UPDATES ‹_› ?_|refine ca251_put_once ‹_› (by with_unfolding_all rfl) (by with_unfolding_all rfl) ?_ (by with_unfolding_all rfl)|refine lo251_put_once ‹_› ?_|refine ca251_place_names ‹_› (by with_unfolding_all rfl) (by with_unfolding_all rfl) ?_ (by with_unfolding_all rfl)|refine lo251_place_names ‹_› ?_|refine ca251_head_of ‹_› (by with_unfolding_all rfl) (by with_unfolding_all rfl) ?_ (by with_unfolding_all rfl)|refine lo251_head_of ‹_› ?_|refine lo251_FUNCTIONS ‹_› ?_|refine ca251_own_name ‹_› (by with_unfolding_all rfl) (by with_unfolding_all rfl) ?_ (by with_unfolding_all rfl)|refine lo251_own_name ‹_› ?_) | tbr_iter "zif")
      exact retK_next (fin S5 (by rw [nope qf]; rfl))
  refine ite_neg q4 ?_
  have qf : hd ≠ S "function" := fun e => q4 (by rw [e]; decide)
  repeat (first | tbr_iter "zst" | (with_reducible first|refine lo251_self ‹_› ?_|refine lo251_tree ‹_› ?_|refine lo251_head ‹_› ?_|refine lo251_part ‹_› ?_|refine lo251_place ‹_› ?_|refine lo251_UPDATES ‹_› ?_|refine ca251_put_once ‹_› (by with_unfolding_all rfl) (by with_unfolding_all rfl) ?_ (by with_unfolding_all rfl)|refine lo251_put_once ‹_› ?_|refine ca251_place_names ‹_› (by with_unfolding_all rfl) (by with_unfolding_all rfl) ?_ (by with_unfolding_all rfl)|refine lo251_place_names ‹_› ?_|refine ca251_head_of ‹_› (by with_unfolding_all rfl) (by with_unfolding_all rfl) ?_ (by with_unfolding_all rfl)|refine lo251_head_of ‹_› ?_|refine lo251_FUNCTIONS ‹_› ?_|refine ca251_own_name ‹_› (by with_unfolding_all rfl) (by with_unfolding_all rfl) ?_ (by with_unfolding_all rfl)|refine lo251_own_name ‹_› ?_) | tbr_iter "zif")
  exact retK_next (fin S4 (by rw [nope qf]; rfl))
end

theorem kp254 (P : Params) : keepIn (KK P) (.ref 254) = true := by kernel_rfl
theorem ms_note (P : Params) : findIn (KK P) (.ref 254) "note" = some (some (.ref 251)) := by kernel_rfl
theorem if_note (P : Params) : isFn (KK P) (.ref 251) = true := by kernel_rfl
theorem pg_note (P : Params) : plainGet (KK P) 254 "note" = true := by kernel_rfl
section
variable {w : World} {A : Around} {s : Shared} {h₀ : Heap}
theorem St.call3g {g h h' : Heap} {L a0 a1 a2 : Addr} {l : LM} {pre : Led} {ls ls' : Ls} (SS : St w g L l (pre ++ L3 a0 a1 a2 ls) h) (nl : ∀ p ∈ pre, p.1 ∉ [a0, a1, a2]) (k : ∀ b o, b ∉ [a0, a1, a2] → h.get? b = some o → h'.get? b = some o) (x : ∀ p ∈ L3 a0 a1 a2 ls', Has h' p) :
    St w g L l (pre ++ L3 a0 a1 a2 ls') h' := by
  have z : ∀ p ∈ L3 a0 a1 a2 ls, p.1 ≠ L ∧ g.get? p.1 = none := fun p hp => (SS.N p (List.mem_append_right _ hp)).2
  refine SS.but k (fun b hb => ?_) fun p hp => ?_
  · rcases List.mem_cons.mp hb with rfl | hb
    · exact z _ (.head _)
    · rcases List.mem_cons.mp hb with rfl | hb
      · exact z _ (.tail _ (.head _))
      · rw [List.mem_singleton.mp hb]; exact z _ (.tail _ (.tail _ (.head _)))
  · rcases List.mem_append.mp hp with hp | hp
    · exact .inl ⟨List.mem_append_left _ hp, nl p hp⟩
    · refine .inr ⟨?_, x p hp⟩
      rcases List.mem_cons.mp hp with rfl | hp
      · exact .head _
      · rcases List.mem_cons.mp hp with rfl | hp
        · exact .tail _ (.head _)
        · rw [List.mem_singleton.mp hp]; exact .tail _ (.tail _ (.head _))
theorem sp_bnames {v : Value} {t : T} {n : Nat} {es : List Ev} (R : Room 10 A) (B : Bs w h₀) (k₀ : h₀.StaysIn s.heap) (ht : TreeAt s.heap v t) (hw : Wk n t es) (hn : n ≤ 600) :
    wpAny (model PW w) A (call (.ref 265) [v]) (Ret s [] fun r h' => ∃ c a0 a1 a2, r = .ref c ∧ IsTup h' c [.ref a0, .ref a1, .ref a2].toArray ∧ Ne3 a0 a1 a2 ∧ ∀ p ∈ L3 a0 a1 a2 (run es ([], [], [])), Has h' p ∧ s.heap.get? p.1 = none) NoE s := by
  refine en265 R B k₀ [] (fun p hp => nomatch hp) ?_
  intro g L h₁ tk SS hg kg kg' k₁ R'
  have ht' := ht.kg kg noTup_nil
  refine x_two R'.1 ?_ (by rfl) (by rfl)
  repeat (first | tbr_iter "zst" | (with_reducible first|refine lo265_tree ‹_› ?_|refine lo265_found ‹_› ?_|refine lo265_left ‹_› ?_|refine lo265_here ‹_› ?_|refine lo265_Bound ‹_› ?_|refine ca265_parts_in_scope ‹_› (by with_unfolding_all rfl) (by with_unfolding_all rfl) ?_ (by with_unfolding_all rfl)|refine lo265_parts_in_scope ‹_› ?_) | (with_reducible refine Call_ ?_ (by with_unfolding_all rfl)))
  refine callWith_K0 SS.kin (kp254 _) ?_
  refine u_make (args := []) (Φ := fun x dx h' h'' => ∃ a0 a1 a2, Ne3 a0 a1 a2 ∧ (∀ p ∈ L3 a0 a1 a2 ([], [], []), Has h'' p ∧ h'.get? p.1 = none) ∧ Has h'' (dx, isFields (flds "assigned" "told_local" "told_global" a0 a1 a2))) SS B hg (mk254 _) (fi254 _) (if254 _) (fun x dx h' tk' kh hx hd nx nd xd => in244 (s := up s h' tk') ((R'.le (by decide : 2 ≤ 9)).make) B kh hx hd nd xd) ?_
  rintro x dx h2 h3 tk3 S2 xd _ k3 ⟨a0, a1, a2, N, H, Hd⟩
  have nx : ∀ {a}, h2.get? a = none → a ≠ L ∧ g.get? a = none := fun {a} e => ⟨fun q => S2.low (q ▸ e), by
    cases q : g.get? a with
    | none => rfl
    | some o => have := S2.F.keep _ _ q; rw [e] at this; cases this⟩
  have S3 := St.upd (pre := [(x, isInst 254 dx)]) (post := []) (P' := isFields (flds "assigned" "told_local" "told_global" a0 a1 a2)) S2 (by simp; exact xd) k3 Hd
  have H0 := H _ (.head _)
  have H1 := H _ (.tail _ (.head _))
  have H2 := H _ (.tail _ (.tail _ (.head _)))
  have S4 := ((S3.add H2.1 (nx H2.2).1 (nx H2.2).2).add H1.1 (nx H1.2).1 (nx H1.2).2).add H0.1 (nx H0.2).1 (nx H0.2).2
  have S5 : St w g L _ ([(x, isInst 254 dx), (dx, isFields (flds "assigned" "told_local" "told_global" a0 a1 a2))] ++ L3 a0 a1 a2 ([], [], [])) h3 := S4.sub fun p hp => by
    simp only [L3, List.cons_append, List.nil_append, List.mem_cons, List.not_mem_nil, or_false] at hp ⊢
    rcases hp with e | e | e | e | e
    · exact .inr (.inr (.inr (.inl e)))
    · exact .inr (.inr (.inr (.inr e)))
    · exact .inl e
    · exact .inr (.inl e)
    · exact .inr (.inr (.inl e))
  clear S3 S4
  have xa : ∀ {b o}, h2.get? b = some o → b ∉ [a0, a1, a2] := fun {b o} e q => by
    rcases List.mem_cons.mp q with rfl | q
    · rw [H0.2] at e; cases e
    · rcases List.mem_cons.mp q with rfl | q
      · rw [H1.2] at e; cases e
      · rw [List.mem_singleton.mp q, H2.2] at e; cases e
  have x2 : x ∉ [a0, a1, a2] := let ⟨_, e, _⟩ := (S2.N _ (.head _)).1; xa e
  have dx2 : dx ∉ [a0, a1, a2] := let ⟨_, e, _⟩ := (S2.N _ (.tail _ (.head _))).1; xa e
  repeat (first | tbr_iter "zst" | (with_reducible first|refine lo265_tree ‹_› ?_|refine lo265_found ‹_› ?_|refine lo265_left ‹_› ?_|refine lo265_here ‹_› ?_|refine lo265_Bound ‹_› ?_|refine ca265_parts_in_scope ‹_› (by with_unfolding_all rfl) (by with_unfolding_all rfl) ?_ (by with_unfolding_all rfl)|refine lo265_parts_in_scope ‹_› ?_))
  refine r_newList ?_ (by exact Nat.le_of_ble_eq_true rfl)
  intro h6 lf k6 elf e6
  have fr := S5.fresh
  have S6 := (S5.keeps k6).add (P := isPL [v]) ⟨_, e6, 0, rfl⟩ (elf ▸ fr.2.1) (elf ▸ fr.1)
  repeat (first | tbr_iter "zst" | (with_reducible first|refine lo265_tree ‹_› ?_|refine lo265_found ‹_› ?_|refine lo265_left ‹_› ?_|refine lo265_here ‹_› ?_|refine lo265_Bound ‹_› ?_|refine ca265_parts_in_scope ‹_› (by with_unfolding_all rfl) (by with_unfolding_all rfl) ?_ (by with_unfolding_all rfl)|refine lo265_parts_in_scope ‹_› ?_))
  refine r_newTuple ?_ (by exact Nat.le_of_ble_eq_true rfl)
  intro h7 t7 k7 et7 e7
  refine ⟨h7, _, t7, _, _, rfl, rfl, ⟨_, e7, rfl, _, rfl⟩, fun h8 tk8 k8 => ?_⟩
  have S8 := (S6.keeps k7).keeps k8
  refine so265_left S8 ?_
  intro h9 tk9 S9 k9
  refine so265_found S9 ?_
  intro h10 tk10 S10 k10
  have lfs : ∀ p ∈ [(x, isInst 254 dx), (dx, isFields (flds "assigned" "told_local" "told_global" a0 a1 a2))] ++ L3 a0 a1 a2 ([], [], []), p.1 ≠ lf := fun p hp q => fr.2.2 p hp (q.trans elf)
  have xlf : x ≠ lf := lfs _ (.head _)
  have dlf : dx ≠ lf := lfs _ (.tail _ (.head _))
  have l0 : a0 ≠ lf := lfs _ (.tail _ (.tail _ (.head _)))
  have l1 : a1 ≠ lf := lfs _ (.tail _ (.tail _ (.tail _ (.head _))))
  have l2 : a2 ≠ lf := lfs _ (.tail _ (.tail _ (.tail _ (.tail _ (.head _)))))
  have nlf : lf ∉ [a0, a1, a2] := fun q => by
    rcases List.mem_cons.mp q with e | q
    · exact l0 e.symm
    · rcases List.mem_cons.mp q with e | q
      · exact l1 e.symm
      · exact l2 (List.mem_singleton.mp q).symm
  have nolf : ∀ {cur : Ls}, ∀ p ∈ ([] : Led) ++ ([(x, isInst 254 dx), (dx, isFields (flds "assigned" "told_local" "told_global" a0 a1 a2))] ++ L3 a0 a1 a2 cur), p.1 ≠ lf := fun {cur} p hp => by
    simp only [L3, List.cons_append, List.nil_append, List.mem_cons, List.not_mem_nil, or_false] at hp
    rcases hp with rfl | rfl | rfl | rfl | rfl
    · exact xlf
    · exact dlf
    · exact l0
    · exact l1
    · exact l2
  have apart : ∀ {vs : List Value}, ∀ p ∈ ((lf, isPL vs) :: [(x, isInst 254 dx), (dx, isFields (flds "assigned" "told_local" "told_global" a0 a1 a2))] : Led), p.1 ∉ [a0, a1, a2] := fun {vs} p hp => by
    rcases List.mem_cons.mp hp with rfl | hp
    · exact nlf
    · rcases List.mem_cons.mp hp with rfl | hp
      · exact x2
      · rw [List.mem_singleton.mp hp]; exact dx2
  have n0 : ∀ {b : Addr}, g.get? b = none → h₀.get? b = none := fun {b} e => by
    cases q : h₀.get? b with
    | none => rfl
    | some o => rw [hg _ _ q] at e; cases e
  refine x_cons ?_
  refine r_while (fun m h => ∃ vs ts m' fs cur o, TreesAt h vs.reverse ts ∧ Wks m' ts fs ∧ m' ≤ m ∧ m' ≤ 600 ∧ run fs cur = run es ([], [], []) ∧ Gds cur ∧ St w g L (V265 (some v) (some (.ref x)) (some (.ref lf)) o) ((lf, isPL vs) :: ([(x, isInst 254 dx), (dx, isFields (flds "assigned" "told_local" "told_global" a0 a1 a2))] ++ L3 a0 a1 a2 cur)) h) ?_ n ⟨[v], [t], n, es, ([], [], []), none, .cons (ht'.mono (TupKeep.of_stays S10.F.keep)) .nil, .one hw, Nat.le_refl _, hn, rfl, ⟨Gd.nil, Gd.nil, Gd.nil⟩, S10⟩
  rintro m h4 tk4 ⟨vs, ts, m', fs, cur, o, hts, hws, hm, hm6, hrun, hG, S4⟩
  repeat (first | tbr_iter "zst" | (with_reducible first|refine lo265_tree ‹_› ?_|refine lo265_found ‹_› ?_|refine lo265_left ‹_› ?_|refine lo265_here ‹_› ?_|refine lo265_Bound ‹_› ?_|refine ca265_parts_in_scope ‹_› (by with_unfolding_all rfl) (by with_unfolding_all rfl) ?_ (by with_unfolding_all rfl)|refine lo265_parts_in_scope ‹_› ?_))
  refine r_newList ?_ (by exact Nat.le_of_ble_eq_true rfl)
  intro h5 e5 k5 _ ee5
  have S5 := S4.keeps k5
  have zl : vs.length ≤ 600 := by
    have a := hts.length
    have b := hws.len
    rw [List.length_reverse] at a; omega
  refine c_ne_nil R' (S5.N _ (.head _)).1.isPList ⟨_, ee5, rfl, _, rfl⟩ ?_
  repeat (first | tbr_iter "zst")
  rcases List.eq_nil_or_concat vs with rfl | ⟨vs', v1, econ⟩
  · refine ite_neg (fun q => nomatch q) ?_
    cases hts
    cases hws
    have hc : cur = run es ([], [], []) := hrun
    subst hc
    have hxi := (S5.N _ (.tail _ (.head _))).1
    have hxf := (S5.N _ (.tail _ (.tail _ (.head _)))).1
    repeat (first | tbr_iter "zst" | (with_reducible first|refine lo265_tree ‹_› ?_|refine lo265_found ‹_› ?_|refine lo265_left ‹_› ?_|refine lo265_here ‹_› ?_|refine lo265_Bound ‹_› ?_|refine ca265_parts_in_scope ‹_› (by with_unfolding_all rfl) (by with_unfolding_all rfl) ?_ (by with_unfolding_all rfl)|refine lo265_parts_in_scope ‹_› ?_) | tbr_iter "zcb")
    refine u_get S5 hxi hxf (ga254_assigned _) (hd254 _) (fa254_assigned _) rfl rfl rfl ?_
    intro tk6
    repeat (first | tbr_iter "zst" | (with_reducible first|refine lo265_tree ‹_› ?_|refine lo265_found ‹_› ?_|refine lo265_left ‹_› ?_|refine lo265_here ‹_› ?_|refine lo265_Bound ‹_› ?_|refine ca265_parts_in_scope ‹_› (by with_unfolding_all rfl) (by with_unfolding_all rfl) ?_ (by with_unfolding_all rfl)|refine lo265_parts_in_scope ‹_› ?_) | tbr_iter "zcb")
    refine u_get S5 hxi hxf (ga254_told_local _) (hd254 _) (fa254_told_local _) rfl rfl rfl ?_
    intro tk7
    repeat (first | tbr_iter "zst" | (with_reducible first|refine lo265_tree ‹_› ?_|refine lo265_found ‹_› ?_|refine lo265_left ‹_› ?_|refine lo265_here ‹_› ?_|refine lo265_Bound ‹_› ?_|refine ca265_parts_in_scope ‹_› (by with_unfolding_all rfl) (by with_unfolding_all rfl) ?_ (by with_unfolding_all rfl)|refine lo265_parts_in_scope ‹_› ?_) | tbr_iter "zcb")
    refine u_get S5 hxi hxf (ga254_told_global _) (hd254 _) (fa254_told_global _) rfl rfl rfl ?_
    intro tk8
    repeat (first | tbr_iter "zst" | (with_reducible first|refine lo265_tree ‹_› ?_|refine lo265_found ‹_› ?_|refine lo265_left ‹_› ?_|refine lo265_here ‹_› ?_|refine lo265_Bound ‹_› ?_|refine ca265_parts_in_scope ‹_› (by with_unfolding_all rfl) (by with_unfolding_all rfl) ?_ (by with_unfolding_all rfl)|refine lo265_parts_in_scope ‹_› ?_) | tbr_iter "zcb")
    refine r_newTuple ?_ (by exact Nat.le_of_ble_eq_true rfl)
    intro h6 c k6 _ e6
    refine r_ret (S5.keeps k6) kg ⟨c, a0, a1, a2, rfl, ⟨_, e6, rfl, _, rfl⟩, N, fun p hp => ?_⟩
    have z := (S5.keeps k6).N p (.tail _ (.tail _ (.tail _ hp)))
    exact ⟨z.1, none_of kg z.2.2⟩
  rw [List.concat_eq_append] at econ
  subst econ
  refine ite_pos (by cases vs' <;> rfl) ?_
  rw [List.reverse_append] at hts
  cases hts with
  | @cons _ t1 _ ts1 tv htr =>
  cases hws with
  | @cons n1 n2 _ _ es1 fs2 w1 w2 =>
  have np := w1.pos
  refine x_asg ?_ (by with_unfolding_all rfl)
  repeat (first | tbr_iter "zst" | (with_reducible first|refine lo265_tree ‹_› ?_|refine lo265_found ‹_› ?_|refine lo265_left ‹_› ?_|refine lo265_here ‹_› ?_|refine lo265_Bound ‹_› ?_|refine ca265_parts_in_scope ‹_› (by with_unfolding_all rfl) (by with_unfolding_all rfl) ?_ (by with_unfolding_all rfl)|refine lo265_parts_in_scope ‹_› ?_) | tbr_iter "zcb")
  have P5 := (S5.N _ (.head _)).1
  obtain ⟨ol, el, nl, rfl⟩ := id P5
  refine m_method el rfl rfl PySem.F.slot_list_pop PySem.F.type_list_pop ?_
  repeat (first | tbr_iter "zst" | tbr_iter "zcb")
  refine m_pop (vs := vs') (v := v1) el (by rw [List.length_append] at zl; omega) ?_
  intro h6 x6 k6
  have S6 := St.upd (pre := []) (P' := isPL vs') S5 nolf k6 x6
  refine so265_here S6 ?_
  intro h7 tk7 S7 k7
  have tkA : TupKeep h4 h7 := (TupKeep.of_stays k5).trans ((TupKeep.of_but (noTup_pl P5) k6).trans (TupKeep.of_low S6 k7))
  replace tv := tv.mono tkA
  replace htr := htr.mono tkA
  have go : ∀ {s' : Shared} {h8 : Heap} {tk8 : Nat} {cur' : Ls} {us : List Value} {ts2 : List T} {m2 : Nat} {fs1 : List Ev}, TreesAt h8 (us.reverse) (ts2 ++ ts1) → Wks m2 ts2 fs1 → m2 < n1 → run fs1 cur' = run es1 cur → Gds cur' → St w g L (V265 (some v) (some (.ref x)) (some (.ref lf)) (some v1)) ((lf, isPL us) :: ([(x, isInst 254 dx), (dx, isFields (flds "assigned" "told_local" "told_global" a0 a1 a2))] ++ L3 a0 a1 a2 cur')) h8 →
      ∃ h' tk m_1, up s' h8 tk8 = up s' h' tk ∧ m_1 < m ∧ ∃ vs ts m' fs cur o, TreesAt h' vs.reverse ts ∧ Wks m' ts fs ∧ m' ≤ m_1 ∧ m' ≤ 600 ∧ run fs cur = run es ([], [], []) ∧ Gds cur ∧ St w g L (V265 (some v) (some (.ref x)) (some (.ref lf)) o) ((lf, isPL vs) :: ([(x, isInst 254 dx), (dx, isFields (flds "assigned" "told_local" "told_global" a0 a1 a2))] ++ L3 a0 a1 a2 cur)) h' := by
    intro s' h8 tk8 cur' us ts2 m2 fs1 ha hb hc hd he hf
    exact ⟨h8, tk8, m2 + n2, rfl, by omega, us, ts2 ++ ts1, m2 + n2, fs1 ++ fs2, cur', _, ha, hb.append w2, Nat.le_refl _, by omega, by rw [run_append, hd, ← run_append]; exact hrun, he, hf⟩
  refine x_if ?_
  cases t1 with
  | sym z =>
    cases w1
    cases tv with
    | sym i1 =>
    repeat (first | tbr_iter "zst" | (with_reducible first|refine lo265_tree ‹_› ?_|refine lo265_found ‹_› ?_|refine lo265_left ‹_› ?_|refine lo265_here ‹_› ?_|refine lo265_Bound ‹_› ?_|refine ca265_parts_in_scope ‹_› (by with_unfolding_all rfl) (by with_unfolding_all rfl) ?_ (by with_unfolding_all rfl)|refine lo265_parts_in_scope ‹_› ?_) | tbr_iter "zit" | tbr_iter "zif")
    exact go (ts2 := []) (m2 := 0) (fs1 := []) htr .nil np rfl hG S7
  | int =>
    cases w1
    cases tv with
    | int i1 =>
    repeat (first | tbr_iter "zst" | (with_reducible first|refine lo265_tree ‹_› ?_|refine lo265_found ‹_› ?_|refine lo265_left ‹_› ?_|refine lo265_here ‹_› ?_|refine lo265_Bound ‹_› ?_|refine ca265_parts_in_scope ‹_› (by with_unfolding_all rfl) (by with_unfolding_all rfl) ?_ (by with_unfolding_all rfl)|refine lo265_parts_in_scope ‹_› ?_) | tbr_iter "zit" | tbr_iter "zif")
    exact go (ts2 := []) (m2 := 0) (fs1 := []) htr .nil np rfl hG S7
  | node hd ps =>
    obtain ⟨e0, ts2, m2, fs1, hs, hw', hm2, rfl⟩ := w1.sp
    have TV := tv
    cases tv with
    | @node at_ p _ _ th us0 _ i1 i2 i3 =>
    have hxi := (S7.N _ (.tail _ (.head _))).1
    have hxf := (S7.N _ (.tail _ (.tail _ (.head _)))).1
    repeat (first | tbr_iter "zst" | (with_reducible first|refine lo265_tree ‹_› ?_|refine lo265_found ‹_› ?_|refine lo265_left ‹_› ?_|refine lo265_here ‹_› ?_|refine lo265_Bound ‹_› ?_|refine ca265_parts_in_scope ‹_› (by with_unfolding_all rfl) (by with_unfolding_all rfl) ?_ (by with_unfolding_all rfl)|refine lo265_parts_in_scope ‹_› ?_) | tbr_iter "zit" | tbr_iter "zif" | tbr_iter "zcb")
    refine u_meth S7 hxi hxf (pg_note _) (ms_note _) (if_note _) rfl ?_
    refine callWith_put S7.kin (kp251 _) (by with_unfolding_all rfl) (by with_unfolding_all rfl) ?_
    repeat (first | tbr_iter "zst" | (with_reducible first|refine lo265_tree ‹_› ?_|refine lo265_found ‹_› ?_|refine lo265_left ‹_› ?_|refine lo265_here ‹_› ?_|refine lo265_Bound ‹_› ?_|refine ca265_parts_in_scope ‹_› (by with_unfolding_all rfl) (by with_unfolding_all rfl) ?_ (by with_unfolding_all rfl)|refine lo265_parts_in_scope ‹_› ?_))
    have H7 : ∀ p ∈ L3 a0 a1 a2 cur, Has h7 p ∧ h₀.get? p.1 = none := fun p hp => let z := S7.N p (.tail _ (.tail _ (.tail _ hp))); ⟨z.1, n0 z.2.2⟩
    refine ⟨S7.kin, r_use (sp_note2 (R'.le (by decide)) B (fun b o e => S7.F.keep b o (hg b o e)) TV hs ⟨dx, hxi, hxf⟩ H7 N hG) ?_⟩
    rintro r h8 tk8 k8 x8
    have S8 := St.call3g (pre := (lf, isPL vs') :: [(x, isInst 254 dx), (dx, isFields (flds "assigned" "told_local" "told_global" a0 a1 a2))]) S7 apart k8 x8
    have kt8 : TupKeep h7 h8 := TupKeep.of_but (noTup_L3 fun p hp => (H7 p hp).1) k8
    replace htr := htr.mono kt8
    replace TV := TV.mono kt8
    have P8 := (S8.N _ (.head _)).1
    obtain ⟨ol8, el8, nl8, rfl⟩ := id P8
    repeat (first | tbr_iter "zst" | (with_reducible first|refine lo265_tree ‹_› ?_|refine lo265_found ‹_› ?_|refine lo265_left ‹_› ?_|refine lo265_here ‹_› ?_|refine lo265_Bound ‹_› ?_|refine ca265_parts_in_scope ‹_› (by with_unfolding_all rfl) (by with_unfolding_all rfl) ?_ (by with_unfolding_all rfl)|refine lo265_parts_in_scope ‹_› ?_) | tbr_iter "zcb")
    refine m_method el8 rfl rfl PySem.F.slot_list_extend PySem.F.type_list_extend ?_
    repeat (first | tbr_iter "zst" | (with_reducible first|refine lo265_tree ‹_› ?_|refine lo265_found ‹_› ?_|refine lo265_left ‹_› ?_|refine lo265_here ‹_› ?_|refine lo265_Bound ‹_› ?_|refine ca265_parts_in_scope ‹_› (by with_unfolding_all rfl) (by with_unfolding_all rfl) ?_ (by with_unfolding_all rfl)|refine lo265_parts_in_scope ‹_› ?_) | tbr_iter "zcb")
    · refine u_pure S8 (sp_pis (R'.le (by decide)) B (fun b o e => S8.F.keep b o (hg b o e)) TV hs) ?_
      rintro r h9 tk9 k9 S9 ⟨c, us, ts3, rfl, hc, hus, hnx⟩
      obtain ⟨m3, hm3, hw3⟩ := hnx _ _ hw'
      have zu : us.length ≤ 600 := by
        have a := hus.length
        have b := hw3.len
        omega
      have zv : vs'.length ≤ 600 := by rw [List.length_append] at zl; omega
      repeat (first | tbr_iter "zst")
      refine ⟨h9, tk9, c, us, rfl, rfl, hc, by omega, fun d h10 tk10 hd10 k10 => ?_⟩
      repeat (first | tbr_iter "zst")
      have S10 := S9.keeps k10
      refine m_extend_t (k10 _ _ (k9 _ _ el8)) hd10 (by rw [List.length_reverse]; omega) ?_
      intro h11 x11 k11
      have S11 := St.upd (pre := []) (P' := isPL (vs' ++ us.reverse)) S10 nolf k11 x11
      have P10 := (S10.N _ (.head _)).1
      have tkB : TupKeep h9 h11 := (TupKeep.of_stays k10).trans (TupKeep.of_but (noTup_pl P10) k11)
      repeat (first | tbr_iter "zst")
      refine go (tk8 := _) ?_ hw3 (by omega) (by rw [run_append]) (hG.run fun e he => w1.ok e (List.mem_append_left _ he)) S11
      rw [List.reverse_append, List.reverse_reverse]
      exact (hus.mono tkB).append (htr.mono ((TupKeep.of_stays k9).trans tkB))
    · intro h tk Q q
      refine wpAny_UnaryOp (r_int fun u tk' => ?_)
      exact PySem.P.neg_int (q _ _)
end

section
variable {w : World} {A : Around} {E : Value → Shared → Prop} {s : Shared} {h : Heap} {tk : Nat}
/-- C(..): all that was there stays -/
theorem u_make2 {C fI : Addr} {args : List Value} {Φ : Addr → Addr → Heap → Heap → Prop} {Q : Value → Shared → Prop} (X : (KK w.params).In h) (hm : makesIn (KK w.params) C = true) (hi : findIn (KK w.params) (.ref C) "__init__" = some (some (.ref fI))) (hf : isFn (KK w.params) (.ref fI) = true)
    (init : ∀ x dx h' tk', h.StaysIn h' → Has h' (x, isInst C dx) → Has h' (dx, isFields []) → h.get? x = none → h.get? dx = none → x ≠ dx →
      codeAny (model PW w) (Around.make A C args) (.call (.ref fI) ⟨.ref x :: args, []⟩) (InitK (up s h' tk') [dx] (Φ x dx h')) (up s h' tk'))
    (q : ∀ x dx h' h'' tk'', h.StaysIn h' → h.StaysIn h'' → Has h'' (x, isInst C dx) → h.get? x = none → h.get? dx = none → x ≠ dx → Φ x dx h' h'' → Q (.ref x) (up s h'' tk'')) :
    wpAny (model PW w) A (call (.ref C) args) Q E (up s h tk) := by
  refine wpAny_call ?_
  have none1 : h.get? h.objs.size = none := Heap.get?_none_of_le (Nat.le_refl _)
  have none2 : h.get? (h.objs.size + 1) = none := Heap.get?_none_of_le (Nat.le_succ _)
  have e1 : ((h.push emptyDict).push (instObj C h.objs.size)).get? (h.objs.size + 1) = some (instObj C h.objs.size) := by
    have := Heap.get?_push_size (h.push emptyDict) (o := instObj C h.objs.size) rfl
    rwa [Heap.size_push] at this
  have e2 : ((h.push emptyDict).push (instObj C h.objs.size)).get? h.objs.size = some emptyDict := Heap.get?_push_of_some _ (Heap.get?_push_size _ rfl)
  have st : h.StaysIn ((h.push emptyDict).push (instObj C h.objs.size)) := fun b o e => Heap.get?_push_of_some _ (Heap.get?_push_of_some _ e)
  have ne : h.objs.size + 1 ≠ h.objs.size := Nat.succ_ne_self _
  have I := init (h.objs.size + 1) h.objs.size ((h.push emptyDict).push (instObj C h.objs.size)) tk st ⟨_, e1, rfl⟩ ⟨_, e2, [], 0, rfl, .nil⟩ none2 none1 ne
  refine make_core (makes_of X hm) (looks_findIn X hi) (fun self => bind_fn X self (beq_iff_eq.mp hf)) (.inl rfl) ?_
  refine codeAny_mono I fun r s' hr => ?_
  obtain ⟨rfl, h'', tk'', rfl, k, φ⟩ := hr
  exact ⟨rfl, q _ _ _ h'' tk'' st (fun b o e => k b o (fun q => by rw [List.mem_singleton.mp q, none1] at e; cases e) (st b o e)) ⟨_, k _ _ (fun q => ne (List.mem_singleton.mp q)) e1, rfl⟩ none2 none1 ne φ⟩
end

section
variable {w : World} {A : Around} {E : Value → Shared → Prop} {s : Shared} {h₀ h : Heap} {tk : Nat}
theorem u_names {Q : Value → Shared → Prop} (R : Room 2 A) (B : Bs w h₀) (k₀ : h₀.StaysIn h)
    (q : ∀ x dx a0 a1 a2 h' tk', h.StaysIn h' → Has h' (x, isInst 167 dx) → Has h' (dx, isFields (flds "assigned" "locals" "globals" a0 a1 a2)) → h.get? x = none → h.get? dx = none → Ne3 a0 a1 a2 → (∀ p ∈ L3 a0 a1 a2 ([], [], []), Has h' p ∧ h.get? p.1 = none) → Q (.ref x) (up s h' tk')) :
    wpAny (model PW w) A (call (.ref 167) []) Q E (up s h tk) := by
  have n0 : ∀ {b : Addr}, h.get? b = none → h₀.get? b = none := fun {b} e => by
    cases q : h₀.get? b with
    | none => rfl
    | some o => rw [k₀ _ _ q] at e; cases e
  refine u_make2 (Φ := fun x dx h' h'' => ∃ a0 a1 a2, Ne3 a0 a1 a2 ∧ (∀ p ∈ L3 a0 a1 a2 ([], [], []), Has h'' p ∧ h'.get? p.1 = none) ∧ Has h'' (dx, isFields (flds "assigned" "locals" "globals" a0 a1 a2))) (B.keeps k₀).kin (mk167 _) (fi167 _) (if167 _)
    (fun x dx h' tk' kh hx hd nx nd xd => in143 (s := up s h' tk') R.make B (fun b o e => kh b o (k₀ b o e)) hx hd (n0 nd) xd) ?_
  rintro x dx h' h'' tk'' k1 k2 hx nx nd xd ⟨a0, a1, a2, N, H, Hd⟩
  refine q x dx a0 a1 a2 h'' tk'' k2 hx Hd nx nd N fun p hp => ⟨(H p hp).1, ?_⟩
  cases e : h.get? p.1 with
  | none => rfl
  | some o => have := (H p hp).2; rw [k1 _ _ e] at this; cases this
end

theorem sa69 (P : Params) : findIn (KK P) (.ref 69) "__setattr__" = some (some (.builtin "object.__setattr__")) := by kernel_rfl
theorem po69 (P : Params) : plainOver (KK P) 69 = true := by kernel_rfl
theorem hd69 (P : Params) : hasDictIn (KK P) 69 = true := by kernel_rfl
theorem mk69 (P : Params) : makesIn (KK P) 69 = true := by kernel_rfl
theorem fi69 (P : Params) : findIn (KK P) (.ref 69) "__init__" = some (some (.ref 66)) := by kernel_rfl
theorem if69 (P : Params) : isFn (KK P) (.ref 66) = true := by kernel_rfl
theorem ta69_value (P : Params) : takerIn (KK P) 69 (Str.ofString "value") = some none := by kernel_rfl
theorem ga69_value (P : Params) : plainGet (KK P) 69 (Str.ofString "value") = true := by kernel_rfl
theorem fa69_value (P : Params) : findIn (KK P) (.ref 69) (Str.ofString "value") = some none := by kernel_rfl
section
variable {w : World} {A : Around} {E : Value → Shared → Prop} {s : Shared} {h₀ h : Heap} {tk : Nat}
theorem in66 {x dx : Addr} {v : Value} (R : Room 1 A) (B : Bs w h₀) (k₀ : h₀.StaysIn s.heap) (hx : Has s.heap (x, isInst 69 dx)) (hd : Has s.heap (dx, isFields [])) (nd : h₀.get? dx = none) (xd : x ≠ dx) :
    codeAny (model PW w) A (.call (.ref 66) ⟨[.ref x, v], []⟩) (InitK s [dx] fun h' => Has h' (dx, isFields [(S "value", v)])) s := by
  refine r_code (binds := [(S "self", .ref x), (S "value", v)]) (f66 _) (c66 _) R B k₀ [(dx, isFields [])] (fun p hp => by rw [List.mem_singleton.mp hp]; exact ⟨hd, nd⟩) (binds_K (B.keeps k₀).kin rfl (show (KK w.params).lookup 59 = some (tupO [.none] 0) by kernel_rfl) rfl (by rfl) (by rfl)) (locs (by rfl)) (by rfl) (by rfl) (by rfl) (by decide) ?_
  intro g L h₁ tk S₀ hg kg kg' k₁ R'
  have SS := S₀.congr (ml66 (.ref x) v)
  obtain ⟨ox, ex, ix⟩ := hx
  have gx : g.get? x = some ox := kg x ox (fun q => xd (List.mem_singleton.mp q)) ex
  refine x_setattr ?_ (by rfl)
  repeat (first | tbr_iter "zst" | (with_reducible first|refine lo66_self ‹_› ?_|refine lo66_value ‹_› ?_))
  refine u_set (pre := []) (post := []) SS (fun _ hp => nomatch hp) ⟨ox, SS.F.keep _ _ gx, ix⟩ (sa69 _) (po69 _) (ta69_value _) (hd69 _) (by simp) ?_
  intro h3 tk3 S3
  repeat (first | tbr_iter "zst" | (with_reducible first|refine lo66_self ‹_› ?_|refine lo66_value ‹_› ?_))
  show InitK s [dx] _ (.ok (.ret .none)) (up s h3 tk3)
  exact ⟨rfl, h3, tk3, rfl, fun b o nb e => S3.F.keep b o (kg b o nb e), (S3.N _ (.head _)).1⟩
/-- a Cell -/
noncomputable def CellAt (h : Heap) (c dx : Addr) (v : Value) : Prop := Has h (c, isInst 69 dx) ∧ Has h (dx, isFields [(S "value", v)])
theorem u_cell {v : Value} {Q : Value → Shared → Prop} (R : Room 2 A) (B : Bs w h₀) (k₀ : h₀.StaysIn h)
    (q : ∀ c dx h' tk', h.StaysIn h' → CellAt h' c dx v → h.get? c = none → h.get? dx = none → c ≠ dx → Q (.ref c) (up s h' tk')) : wpAny (model PW w) A (call (.ref 69) [v]) Q E (up s h tk) := by
  have n0 : ∀ {b : Addr}, h.get? b = none → h₀.get? b = none := fun {b} e => by
    cases q : h₀.get? b with
    | none => rfl
    | some o => rw [k₀ _ _ q] at e; cases e
  refine u_make2 (Φ := fun x dx h' h'' => Has h'' (dx, isFields [(S "value", v)])) (B.keeps k₀).kin (mk69 _) (fi69 _) (if69 _)
    (fun x dx h' tk' kh hx hd nx nd xd => in66 (s := up s h' tk') R.make B (fun b o e => kh b o (k₀ b o e)) hx hd (n0 nd) xd) ?_
  intro x dx h' h'' tk'' k1 k2 hx nx nd xd φ
  exact q x dx h'' tk'' k2 ⟨hx, φ⟩ nx nd xd
end

section
variable {w : World} {A : Around} {E : Value → Shared → Prop} {s : Shared} {h : Heap} {tk : Nat}
/-- a dict with texts as keys -/
noncomputable def isTab (w : World) (kvs : List (Str × Value)) : OP := fun o => o.IsDictOf (strKind PW w) kvs
theorem Has.tab {d : Addr} {kvs : List (Str × Value)} (x : Has h (d, isTab w kvs)) : h.DictOf (strKind PW w) d kvs := Heap.dictOf_iff.mpr x
theorem Has.of_tab {d : Addr} {kvs : List (Str × Value)} (x : h.DictOf (strKind PW w) d kvs) : Has h (d, isTab w kvs) := Heap.dictOf_iff.mp x
theorem d_new {env : Env} {pos : Pos} {Q : Value → Shared → Prop} (q : ∀ a h' tk', a = h.objs.size → h.StaysIn h' → Has h' (a, isTab w []) → Q (.ref a) (up s h' tk')) : wpAny (model PW w) A (eval (.Dict [] [] pos) env) Q E (up s h tk) :=
  wpAny_Dict_empty (q _ _ tk rfl (fun b o e => Heap.get?_push_of_some _ e) (Has.of_tab (Heap.DictOf.new (knd := strKind PW w) h)))
theorem d_set {d : Addr} {kvs : List (Str × Value)} {x : Str} {t : Nat} {v : Value} {Q : Unit → Shared → Prop} (hd : Has h (d, isTab w kvs)) (hz : kvs.length ≤ 1000)
    (q : ∀ h' tk', Has h' (d, isTab w (stored kvs x v)) → (∀ b o, b ∉ [d] → h.get? b = some o → h'.get? b = some o) → Q () (up s h' tk')) : wpAny (model PW w) A (setItem (.ref d) (.str x t) v) Q E (up s h tk) :=
  wpAny_setItem_pairs (s := up s h tk) (hsz := by simp only [sizeLine]; omega) (strKind_is PW w x t) hd.tab fun h' hm hs => q h' _ (Has.of_tab hm) (sameBut_keep hs)
theorem d_in {d : Addr} {kvs : List (Str × Value)} {x : Str} {t : Nat} {Q : Value → Shared → Prop} (hd : Has h (d, isTab w kvs)) (hm : (d == sysModules) = false) (q : ∀ tk', Q (.bool (valueAt kvs x).isSome) (up s h tk')) : wpAny (model PW w) A (compareOp .In (.str x t) (.ref d)) Q E (up s h tk) :=
  wpAny_in_of (s := up s h tk) (strKind_is PW w x t) hm hd.tab.mapOf (q _)
end

theorem kp69 (P : Params) : keepIn (KK P) (.ref 69) = true := by kernel_rfl
theorem hd125 (P : Params) : hasDictIn (KK P) 125 = true := by kernel_rfl
theorem ga125_cells (P : Params) : plainGet (KK P) 125 (Str.ofString "cells") = true := by kernel_rfl
theorem fa125_cells (P : Params) : findIn (KK P) (.ref 125) (Str.ofString "cells") = some none := by kernel_rfl
section
variable {w : World} {A : Around} {s : Shared} {h₀ : Heap}
theorem sp_bind {x dxs dc : Addr} {fs : List (Str × Value)} {kvs : List (Str × Value)} {nm : Str} {tn : Nat} {v : Value} (R : Room 4 A) (B : Bs w h₀) (k₀ : h₀.StaysIn s.heap) (hx : Has s.heap (x, isInst 125 dxs)) (hf : Has s.heap (dxs, isFields fs)) (hc : fs.lookup (S "cells") = some (.ref dc))
    (hd : Has s.heap (dc, isTab w kvs)) (nd : h₀.get? dc = none) (ne1 : x ≠ dc) (ne2 : dxs ≠ dc) (hz : kvs.length ≤ 100) :
    wpAny (model PW w) A (call (.ref 108) [.ref x, .str nm tn, v]) (Ret s [dc] fun _ h' => ∃ c dx, CellAt h' c dx v ∧ s.heap.get? c = none ∧ s.heap.get? dx = none ∧ c ≠ dx ∧ Has h' (dc, isTab w (stored kvs nm (.ref c)))) NoE s := by
  refine en108 R B k₀ [(dc, isTab w kvs)] (fun p hp => by rw [List.mem_singleton.mp hp]; exact ⟨hd, nd⟩) ?_
  intro g L h₁ tk SS hg kg kg' k₁ R'
  have gx : Has g (x, isInst 125 dxs) := let ⟨o, e, p⟩ := hx; ⟨o, kg _ _ (fun q => ne1 (List.mem_singleton.mp q)) e, p⟩
  have gf : Has g (dxs, isFields fs) := let ⟨o, e, p⟩ := hf; ⟨o, kg _ _ (fun q => ne2 (List.mem_singleton.mp q)) e, p⟩
  have nS : ∀ {h : Heap} {b : Addr}, s.heap.StaysIn h → h.get? b = none → s.heap.get? b = none := fun {h b} k e => by
    cases q : s.heap.get? b with
    | none => rfl
    | some o => rw [k _ _ q] at e; cases e
  refine x_sub ?_ (by rfl)
  repeat (first | tbr_iter "zst" | (with_reducible first|refine lo108_self ‹_› ?_|refine lo108_name ‹_› ?_|refine lo108_value ‹_› ?_|refine lo108_Cell ‹_› ?_) | (with_reducible refine Call_ ?_ (by with_unfolding_all rfl)))
  refine callWith_put SS.kin (kp69 _) (by with_unfolding_all rfl) (by with_unfolding_all rfl) ?_
  repeat (first | tbr_iter "zst" | (with_reducible first|refine lo108_self ‹_› ?_|refine lo108_name ‹_› ?_|refine lo108_value ‹_› ?_|refine lo108_Cell ‹_› ?_))
  refine ⟨SS.kin, u_cell (R'.le (by decide)) B (fun b o e => SS.F.keep b o (hg b o e)) ?_⟩
  intro c dx h2 tk2 k2 hcell nc ndx cdx
  have S2 := SS.keeps k2
  repeat (first | tbr_iter "zst" | (with_reducible first|refine lo108_self ‹_› ?_|refine lo108_name ‹_› ?_|refine lo108_value ‹_› ?_|refine lo108_Cell ‹_› ?_) | tbr_iter "zcb")
  refine u_get S2 (let ⟨o, e, p⟩ := gx; ⟨o, S2.F.keep _ _ e, p⟩) (let ⟨o, e, p⟩ := gf; ⟨o, S2.F.keep _ _ e, p⟩) (ga125_cells _) (hd125 _) (fa125_cells _) rfl hc rfl ?_
  intro tk3
  repeat (first | tbr_iter "zst" | (with_reducible first|refine lo108_self ‹_› ?_|refine lo108_name ‹_› ?_|refine lo108_value ‹_› ?_|refine lo108_Cell ‹_› ?_) | tbr_iter "zcb")
  have D2 := (S2.N _ (.head _)).1
  refine d_set D2 (by omega) ?_
  intro h3 tk4 D3 k3
  have S3 := S2.one ⟨_, .head _⟩ k3 D3
  have h1d : ∃ o, h₁.get? dc = some o := let ⟨o, e, _⟩ := (SS.N _ (.head _)).1; ⟨o, e⟩
  obtain ⟨od, ed⟩ := h1d
  repeat (first | tbr_iter "zst" | (with_reducible first|refine lo108_self ‹_› ?_|refine lo108_name ‹_› ?_|refine lo108_value ‹_› ?_|refine lo108_Cell ‹_› ?_))
  refine retK_next (r_ret S3 kg ⟨c, dx, ⟨?_, ?_⟩, nS k₁ nc, nS k₁ ndx, cdx, (S3.N _ (.head _)).1⟩)
  · obtain ⟨o, e, p⟩ := hcell.1; exact ⟨o, k3 _ _ (fun q => by have q' := List.mem_singleton.mp q; rw [← q', nc] at ed; cases ed) e, p⟩
  · obtain ⟨o, e, p⟩ := hcell.2; exact ⟨o, k3 _ _ (fun q => by have q' := List.mem_singleton.mp q; rw [← q', ndx] at ed; cases ed) e, p⟩
end

theorem ga125_parent (P : Params) : plainGet (KK P) 125 (Str.ofString "parent") = true := by kernel_rfl
theorem fa125_parent (P : Params) : findIn (KK P) (.ref 125) (Str.ofString "parent") = some none := by kernel_rfl
theorem ga125_globals (P : Params) : plainGet (KK P) 125 (Str.ofString "globals") = true := by kernel_rfl
theorem fa125_globals (P : Params) : findIn (KK P) (.ref 125) (Str.ofString "globals") = some none := by kernel_rfl
noncomputable def scF (p : Value) (dc gl : Addr) : List (Str × Value) := [(S "parent", p), (S "cells", .ref dc), (S "globals", .ref gl), (S "end", .none), (S "result", .none)]
noncomputable abbrev Chain := List (List (Str × Value) × List Str)
/-- a scope and those around it -/
inductive ScAt (w : World) (h : Heap) : Value → Chain → Prop
  | nil : ScAt w h .none []
  | cons {x dxs dc gl : Addr} {p : Value} {kvs : List (Str × Value)} {ls : List Str} {rest : Chain} : Has h (x, isInst 125 dxs) → Has h (dxs, isFields (scF p dc gl)) → Has h (dc, isTab w kvs) → Has h (gl, isStrs ls) → (dc == sysModules) = false → ScAt w h p rest → ScAt w h (.ref x) ((kvs, ls) :: rest)
theorem Has.stays {h h' : Heap} {p : Addr × OP} (k : h.StaysIn h') (x : Has h p) : Has h' p := let ⟨o, e, q⟩ := x; ⟨o, k _ _ e, q⟩
theorem ScAt.mono {w : World} {h h' : Heap} (k : h.StaysIn h') {v : Value} {c : Chain} (x : ScAt w h v c) : ScAt w h' v c := by
  induction x with
  | nil => exact .nil
  | cons a b c d e _ ih => exact .cons (a.stays k) (b.stays k) (c.stays k) (d.stays k) e ih
noncomputable def known (nm : Str) (c : Chain) : Bool := c.any fun q => (valueAt q.1 nm).isSome || q.2.any (· == nm)
section
variable {w : World} {A : Around} {s : Shared} {h₀ : Heap}
theorem sp_known {x : Value} {c : Chain} {nm : Str} {tn : Nat} (R : Room 2 A) (B : Bs w h₀) (k₀ : h₀.StaysIn s.heap) (hx : ScAt w s.heap x c) :
    wpAny (model PW w) A (call (.ref 101) [x, .str nm tn]) (Ret s [] fun r _ => r = .bool (known nm c)) NoE s := by
  refine en101 R B k₀ [] (fun p hp => nomatch hp) ?_
  intro g L h₁ tk SS hg kg kg' k₁ R'
  have gx : ScAt w g x c := hx.mono fun b o e => kg b o (fun q => nomatch q) e
  refine x_asg ?_ (by rfl)
  repeat (first | tbr_iter "zst" | (with_reducible first|refine lo101_self ‹_› ?_|refine lo101_name ‹_› ?_|refine lo101_here ‹_› ?_))
  refine so101_here SS ?_
  intro h2 tk2 S2 k2
  refine x_cons ?_
  refine r_while (fun n h => ∃ hv c', n = c'.length ∧ ScAt w g hv c' ∧ known nm c' = known nm c ∧ St w g L (V94 (some x) (some (.str nm tn)) (some hv)) [] h) ?_ c.length ⟨x, c, rfl, gx, rfl, S2⟩
  rintro n h3 tk3 ⟨hv, c', rfl, hc, hk, S3⟩
  repeat (first | tbr_iter "zst" | (with_reducible first|refine lo101_self ‹_› ?_|refine lo101_name ‹_› ?_|refine lo101_here ‹_› ?_))
  refine isNot_none ?_
  repeat (first | tbr_iter "zst" | (with_reducible first|refine lo101_self ‹_› ?_|refine lo101_name ‹_› ?_|refine lo101_here ‹_› ?_))
  cases hc with
  | nil =>
    refine ite_neg (fun q => nomatch q) ?_
    repeat (first | tbr_iter "zst" | (with_reducible first|refine lo101_self ‹_› ?_|refine lo101_name ‹_› ?_|refine lo101_here ‹_› ?_))
    exact r_ret (Φ := fun r _ => r = .bool (known nm c)) S3 kg (by rw [← hk]; rfl)
  | @cons y dxs dc gl p kvs ls rest c1 c2 c3 c4 c5 c6 =>
    refine ite_pos rfl ?_
    have i1 := c1.stays S3.F.keep
    have i2 := c2.stays S3.F.keep
    have hk' : known nm ((kvs, ls) :: rest) = (((valueAt kvs nm).isSome || ls.any (· == nm)) || known nm rest) := rfl
    refine x_if ?_
    repeat (first | tbr_iter "zst" | (with_reducible first|refine lo101_self ‹_› ?_|refine lo101_name ‹_› ?_|refine lo101_here ‹_› ?_) | tbr_iter "zcb")
    refine u_get S3 i1 i2 (ga125_cells _) (hd125 _) (fa125_cells _) rfl rfl rfl ?_
    intro tk4
    repeat (first | tbr_iter "zst" | (with_reducible first|refine lo101_self ‹_› ?_|refine lo101_name ‹_› ?_|refine lo101_here ‹_› ?_) | tbr_iter "zcb")
    refine d_in (c3.stays S3.F.keep) c5 ?_
    intro tk5
    repeat (first | tbr_iter "zst" | (with_reducible first|refine lo101_self ‹_› ?_|refine lo101_name ‹_› ?_|refine lo101_here ‹_› ?_) | tbr_iter "zcb")
    by_cases q1 : (valueAt kvs nm).isSome = true
    · refine ite_pos q1 ?_
      repeat (first | tbr_iter "zst" | tbr_iter "zif")
      exact r_ret (Φ := fun r _ => r = .bool (known nm c)) S3 kg (by rw [← hk, hk', q1]; rfl)
    refine ite_neg q1 ?_
    repeat (first | tbr_iter "zst" | (with_reducible first|refine lo101_self ‹_› ?_|refine lo101_name ‹_› ?_|refine lo101_here ‹_› ?_) | tbr_iter "zcb")
    refine u_get S3 i1 i2 (ga125_globals _) (hd125 _) (fa125_globals _) rfl rfl rfl ?_
    intro tk6
    repeat (first | tbr_iter "zst" | (with_reducible first|refine lo101_self ‹_› ?_|refine lo101_name ‹_› ?_|refine lo101_here ‹_› ?_) | tbr_iter "zcb")
    refine c_inl (c4.stays S3.F.keep) ?_
    repeat (first | tbr_iter "zst" | (with_reducible first|refine lo101_self ‹_› ?_|refine lo101_name ‹_› ?_|refine lo101_here ‹_› ?_) | tbr_iter "zcb")
    by_cases q2 : (ls.any (· == nm)) = true
    · refine ite_pos q2 ?_
      repeat (first | tbr_iter "zst" | tbr_iter "zif")
      exact r_ret (Φ := fun r _ => r = .bool (known nm c)) S3 kg (by rw [← hk, hk', q2, Bool.or_true]; rfl)
    refine ite_neg q2 ?_
    repeat (first | tbr_iter "zst" | (with_reducible first|refine lo101_self ‹_› ?_|refine lo101_name ‹_› ?_|refine lo101_here ‹_› ?_) | tbr_iter "zif" | tbr_iter "zcb")
    refine u_get S3 i1 i2 (ga125_parent _) (hd125 _) (fa125_parent _) rfl rfl (by cases c6 <;> rfl) ?_
    intro tk7
    refine so101_here S3 ?_
    intro h8 tk8 S8 k8
    repeat (first | tbr_iter "zst")
    exact ⟨h8, tk8, rest.length, rfl, Nat.lt_succ_self _, p, rest, rfl, c6, by rw [← hk, hk', Bool.eq_false_iff.mpr q1, Bool.eq_false_iff.mpr q2]; rfl, S8⟩
end

noncomputable def findV (nm : Str) : Chain → Value
  | [] => .none
  | (kvs, ls) :: rest => match valueAt kvs nm with | some v => v | none => if (ls.any (· == nm)) = true then .none else findV nm rest
section
variable {w : World} {A : Around} {s : Shared} {h₀ : Heap}
theorem d_item {E : Value → Shared → Prop} {h : Heap} {tk : Nat} {value slice : Expr} {d : Addr} {kvs : List (Str × Value)} {x : Str} {t : Nat} {v : Value} {ops : List Value} {Q : Value → Shared → Prop} (hd : Has h (d, isTab w kvs)) (hv : valueAt kvs x = some v) (q : ∀ tk', Q v (up s h tk'))
    (hs : subscripted slice false (.ref d) (.str x t) = operate ops (getItem (.ref d) (.str x t))) : wpAny (model PW w) A (subscriptTail value slice (.ref d) (.str x t)) Q E (up s h tk) :=
  tail_any (s := up s h tk) hd.tab.typeIs slot_dict_getitem.lookup (wpAny_getItem_of (strKind_is PW w x t) hd.tab.mapOf hv (q _)) hs
theorem sp_find {x : Value} {c : Chain} {nm : Str} {tn : Nat} (R : Room 2 A) (B : Bs w h₀) (k₀ : h₀.StaysIn s.heap) (hx : ScAt w s.heap x c) :
    wpAny (model PW w) A (call (.ref 94) [x, .str nm tn]) (Ret s [] fun r _ => r = findV nm c) NoE s := by
  refine en94 R B k₀ [] (fun p hp => nomatch hp) ?_
  intro g L h₁ tk SS hg kg kg' k₁ R'
  have gx : ScAt w g x c := hx.mono fun b o e => kg b o (fun q => nomatch q) e
  refine x_asg ?_ (by rfl)
  repeat (first | tbr_iter "zst" | (with_reducible first|refine lo94_self ‹_› ?_|refine lo94_name ‹_› ?_|refine lo94_here ‹_› ?_))
  refine so94_here SS ?_
  intro h2 tk2 S2 k2
  refine x_cons ?_
  refine r_while (fun n h => ∃ hv c', n = c'.length ∧ ScAt w g hv c' ∧ findV nm c' = findV nm c ∧ St w g L (V94 (some x) (some (.str nm tn)) (some hv)) [] h) ?_ c.length ⟨x, c, rfl, gx, rfl, S2⟩
  rintro n h3 tk3 ⟨hv, c', rfl, hc, hk, S3⟩
  repeat (first | tbr_iter "zst" | (with_reducible first|refine lo94_self ‹_› ?_|refine lo94_name ‹_› ?_|refine lo94_here ‹_› ?_))
  refine isNot_none ?_
  repeat (first | tbr_iter "zst" | (with_reducible first|refine lo94_self ‹_› ?_|refine lo94_name ‹_› ?_|refine lo94_here ‹_› ?_))
  cases hc with
  | nil =>
    refine ite_neg (fun q => nomatch q) ?_
    repeat (first | tbr_iter "zst" | (with_reducible first|refine lo94_self ‹_› ?_|refine lo94_name ‹_› ?_|refine lo94_here ‹_› ?_))
    exact r_ret (Φ := fun r _ => r = findV nm c) S3 kg (by rw [← hk]; rfl)
  | @cons y dxs dc gl p kvs ls rest c1 c2 c3 c4 c5 c6 =>
    refine ite_pos rfl ?_
    have i1 := c1.stays S3.F.keep
    have i2 := c2.stays S3.F.keep
    have hk' : findV nm ((kvs, ls) :: rest) = (match valueAt kvs nm with | some v => v | none => if (ls.any (· == nm)) = true then .none else findV nm rest) := rfl
    refine x_if ?_
    repeat (first | tbr_iter "zst" | (with_reducible first|refine lo94_self ‹_› ?_|refine lo94_name ‹_› ?_|refine lo94_here ‹_› ?_) | tbr_iter "zcb")
    refine u_get S3 i1 i2 (ga125_cells _) (hd125 _) (fa125_cells _) rfl rfl rfl ?_
    intro tk4
    repeat (first | tbr_iter "zst" | (with_reducible first|refine lo94_self ‹_› ?_|refine lo94_name ‹_› ?_|refine lo94_here ‹_› ?_) | tbr_iter "zcb")
    refine d_in (c3.stays S3.F.keep) c5 ?_
    intro tk5
    repeat (first | tbr_iter "zst" | (with_reducible first|refine lo94_self ‹_› ?_|refine lo94_name ‹_› ?_|refine lo94_here ‹_› ?_) | tbr_iter "zcb")
    by_cases q1 : (valueAt kvs nm).isSome = true
    · refine ite_pos q1 ?_
      obtain ⟨vv, hvv⟩ := Option.isSome_iff_exists.mp q1
      repeat (first | tbr_iter "zst" | (with_reducible first|refine lo94_self ‹_› ?_|refine lo94_name ‹_› ?_|refine lo94_here ‹_› ?_) | tbr_iter "zcb")
      refine u_get S3 i1 i2 (ga125_cells _) (hd125 _) (fa125_cells _) rfl rfl rfl ?_
      intro tk6
      repeat (first | tbr_iter "zst" | (with_reducible first|refine lo94_self ‹_› ?_|refine lo94_name ‹_› ?_|refine lo94_here ‹_› ?_) | tbr_iter "zcb")
      refine d_item (c3.stays S3.F.keep) hvv ?_ (by with_unfolding_all rfl)
      intro tk7
      exact r_ret (Φ := fun r _ => r = findV nm c) S3 kg (by rw [← hk, hk', hvv])
    have q1n : valueAt kvs nm = none := by
      cases e : valueAt kvs nm with
      | none => rfl
      | some v => rw [e] at q1; exact absurd rfl q1
    refine ite_neg q1 ?_
    repeat (first | tbr_iter "zst" | (with_reducible first|refine lo94_self ‹_› ?_|refine lo94_name ‹_› ?_|refine lo94_here ‹_› ?_) | tbr_iter "zcb")
    refine u_get S3 i1 i2 (ga125_globals _) (hd125 _) (fa125_globals _) rfl rfl rfl ?_
    intro tk6
    repeat (first | tbr_iter "zst" | (with_reducible first|refine lo94_self ‹_› ?_|refine lo94_name ‹_› ?_|refine lo94_here ‹_› ?_) | tbr_iter "zcb")
    refine c_inl (c4.stays S3.F.keep) ?_
    repeat (first | tbr_iter "zst" | (with_reducible first|refine lo94_self ‹_› ?_|refine lo94_name ‹_› ?_|refine lo94_here ‹_› ?_) | tbr_iter "zcb")
    by_cases q2 : (ls.any (· == nm)) = true
    · refine ite_pos q2 ?_
      repeat (first | tbr_iter "zst" | tbr_iter "zif")
      exact r_ret (Φ := fun r _ => r = findV nm c) S3 kg (by rw [← hk, hk', q1n]; simp only [q2]; rfl)
    refine ite_neg q2 ?_
    repeat (first | tbr_iter "zst" | (with_reducible first|refine lo94_self ‹_› ?_|refine lo94_name ‹_› ?_|refine lo94_here ‹_› ?_) | tbr_iter "zif" | tbr_iter "zcb")
    refine u_get S3 i1 i2 (ga125_parent _) (hd125 _) (fa125_parent _) rfl rfl (by cases c6 <;> rfl) ?_
    intro tk7
    refine so94_here S3 ?_
    intro h8 tk8 S8 k8
    repeat (first | tbr_iter "zst")
    exact ⟨h8, tk8, rest.length, rfl, Nat.lt_succ_self _, p, rest, rfl, c6, by rw [← hk, hk', q1n]; simp only [q2]; rfl, S8⟩
end

theorem sa125 (P : Params) : findIn (KK P) (.ref 125) "__setattr__" = some (some (.builtin "object.__setattr__")) := by kernel_rfl
theorem po125 (P : Params) : plainOver (KK P) 125 = true := by kernel_rfl
theorem mk125 (P : Params) : makesIn (KK P) 125 = true := by kernel_rfl
theorem fi125 (P : Params) : findIn (KK P) (.ref 125) "__init__" = some (some (.ref 87)) := by kernel_rfl
theorem if125 (P : Params) : isFn (KK P) (.ref 87) = true := by kernel_rfl
theorem ta125_parent (P : Params) : takerIn (KK P) 125 (Str.ofString "parent") = some none := by kernel_rfl
theorem ta125_cells (P : Params) : takerIn (KK P) 125 (Str.ofString "cells") = some none := by kernel_rfl
theorem ta125_globals (P : Params) : takerIn (KK P) 125 (Str.ofString "globals") = some none := by kernel_rfl
theorem ta125_end (P : Params) : takerIn (KK P) 125 (Str.ofString "end") = some none := by kernel_rfl
theorem ta125_result (P : Params) : takerIn (KK P) 125 (Str.ofString "result") = some none := by kernel_rfl
theorem ga125_end (P : Params) : plainGet (KK P) 125 (Str.ofString "end") = true := by kernel_rfl
theorem fa125_end (P : Params) : findIn (KK P) (.ref 125) (Str.ofString "end") = some none := by kernel_rfl
theorem ga125_result (P : Params) : plainGet (KK P) 125 (Str.ofString "result") = true := by kernel_rfl
theorem fa125_result (P : Params) : findIn (KK P) (.ref 125) (Str.ofString "result") = some none := by kernel_rfl
section
variable {w : World} {A : Around} {s : Shared} {h₀ : Heap}
theorem in87 {x dx : Addr} {p : Value} {c : Chain} (R : Room 1 A) (B : Bs w h₀) (k₀ : h₀.StaysIn s.heap) (hx : Has s.heap (x, isInst 125 dx)) (hd : Has s.heap (dx, isFields [])) (nd : h₀.get? dx = none) (xd : x ≠ dx) (hc : ScAt w h₀ p c) :
    codeAny (model PW w) A (.call (.ref 87) ⟨[.ref x, p], []⟩) (InitK s [dx] fun h' => ∃ dc gl, Has h' (dx, isFields (scF p dc gl)) ∧ Has h' (dc, isTab w []) ∧ Has h' (gl, isStrs []) ∧ s.heap.get? dc = none ∧ s.heap.get? gl = none ∧ dc ≠ gl ∧ (dc == sysModules) = false ∧ dx ≠ dc) s := by
  refine r_code (binds := [(S "self", .ref x), (S "parent", p)]) (f87 _) (c87 _) R B k₀ [(dx, isFields [])] (fun p hp => by rw [List.mem_singleton.mp hp]; exact ⟨hd, nd⟩) (BindsTo.of_eq (by rfl)) (locs (by rfl)) (by rfl) (by rfl) (by rfl) (by decide) ?_
  intro g L h₁ tk S₀ hg kg kg' k₁ R'
  have SS := S₀.congr (ml87 (.ref x) p)
  obtain ⟨ox, ex, ix⟩ := hx
  have gx : g.get? x = some ox := kg x ox (fun q => xd (List.mem_singleton.mp q)) ex
  have gc : ScAt w g p c := hc.mono hg
  have nS : ∀ {b}, g.get? b = none → b ≠ dx → s.heap.get? b = none := fun {b} e nb => by
    cases q : s.heap.get? b with
    | none => rfl
    | some o => rw [kg b o (fun q => nb (List.mem_singleton.mp q)) q] at e; cases e
  refine x_setattr ?_ (by rfl)
  repeat (first | tbr_iter "zst" | (with_reducible first|refine lo87_self ‹_› ?_|refine lo87_parent ‹_› ?_))
  refine u_set (pre := []) (post := []) SS (fun _ hp => nomatch hp) ⟨ox, SS.F.keep _ _ gx, ix⟩ (sa125 _) (po125 _) (ta125_parent _) (hd125 _) (by simp) ?_
  intro h2 tk2 S2
  refine x_setattr ?_ (by with_unfolding_all rfl)
  refine d_new ?_
  intro dc h3 tk3 edc k3 xdc
  have f0 := S2.fresh
  have S3 := (S2.keeps k3).add (P := isTab w []) xdc (edc ▸ f0.2.1) (edc ▸ f0.1)
  have d0 : dx ≠ dc := fun q => f0.2.2 _ (.head _) (q.trans edc)
  repeat (first | tbr_iter "zst" | (with_reducible first|refine lo87_self ‹_› ?_|refine lo87_parent ‹_› ?_))
  refine u_set (pre := [(dc, isTab w [])]) (post := []) S3 (by simp; exact fun q => d0 q.symm) ⟨ox, S3.F.keep _ _ gx, ix⟩ (sa125 _) (po125 _) (ta125_cells _) (hd125 _) (Nat.le_trans putF_len (by simp)) ?_
  intro h4 tk4 S4
  refine x_setattr ?_ (by with_unfolding_all rfl)
  repeat (first | tbr_iter "zst" | (with_reducible first|refine lo87_self ‹_› ?_|refine lo87_parent ‹_› ?_))
  refine r_newList ?_ (by exact Nat.le_of_ble_eq_true rfl)
  intro h5 gl k5 egl e5
  have f1 := S4.fresh
  have S5 := (S4.keeps k5).add (P := isStrs []) ⟨_, e5, [], 0, .nil, rfl⟩ (egl ▸ f1.2.1) (egl ▸ f1.1)
  have d1 : dx ≠ gl := fun q => f1.2.2 _ (.tail _ (.head _)) (q.trans egl)
  have dg : dc ≠ gl := fun q => f1.2.2 _ (.head _) (q.trans egl)
  repeat (first | tbr_iter "zst" | (with_reducible first|refine lo87_self ‹_› ?_|refine lo87_parent ‹_› ?_))
  refine u_set (pre := [(gl, isStrs []), (dc, isTab w [])]) (post := []) S5 (by simp; exact ⟨fun q => d1 q.symm, fun q => d0 q.symm⟩) ⟨ox, S5.F.keep _ _ gx, ix⟩ (sa125 _) (po125 _) (ta125_globals _) (hd125 _) (Nat.le_trans putF_len (Nat.succ_le_succ (Nat.le_trans putF_len (by simp)))) ?_
  intro h6 tk6 S6
  have sm : (dc == sysModules) = false := by
    have lt : @LT.lt Nat _ 66 h2.objs.size := Heap.lt_size (S2.kin _ _ (f66 _))
    refine beq_eq_false_iff_ne.mpr fun q => ?_
    have e1 : @Eq Nat h2.objs.size 1 := edc.symm.trans q
    omega
  have fin : ∀ {l : LM} {h9 : Heap} {tk9 : Nat}, St w g L l [(gl, isStrs []), (dc, isTab w []), (dx, isFields (scF p dc gl))] h9 → InitK s [dx] (fun h' => ∃ dc gl, Has h' (dx, isFields (scF p dc gl)) ∧ Has h' (dc, isTab w []) ∧ Has h' (gl, isStrs []) ∧ s.heap.get? dc = none ∧ s.heap.get? gl = none ∧ dc ≠ gl ∧ (dc == sysModules) = false ∧ dx ≠ dc) (.ok (.ret .none)) (up s h9 tk9) := fun {l h9 tk9} S9 =>
    ⟨rfl, h9, tk9, rfl, fun b o nb e => S9.F.keep b o (kg b o nb e), dc, gl, (S9.N _ (.tail _ (.tail _ (.head _)))).1, (S9.N _ (.tail _ (.head _))).1, (S9.N _ (.head _)).1, nS (S9.N _ (.tail _ (.head _))).2.2 (fun q => d0 q.symm), nS (S9.N _ (.head _)).2.2 (fun q => d1 q.symm), dg, sm, d0⟩
  cases gc with
  | nil =>
    refine x_setattr ?_ (by with_unfolding_all rfl)
    repeat (first | tbr_iter "zst" | (with_reducible first|refine lo87_self ‹_› ?_|refine lo87_parent ‹_› ?_))
    refine is_none ?_
    repeat (first | tbr_iter "zst" | (with_reducible first|refine lo87_self ‹_› ?_|refine lo87_parent ‹_› ?_))
    refine ite_pos rfl ?_
    repeat (first | tbr_iter "zst" | (with_reducible first|refine lo87_self ‹_› ?_|refine lo87_parent ‹_› ?_))
    refine u_set (pre := [(gl, isStrs []), (dc, isTab w [])]) (post := []) S6 (by simp; exact ⟨fun q => d1 q.symm, fun q => d0 q.symm⟩) ⟨ox, S6.F.keep _ _ gx, ix⟩ (sa125 _) (po125 _) (ta125_end _) (hd125 _) (Nat.le_trans putF_len (Nat.succ_le_succ (Nat.le_trans putF_len (Nat.succ_le_succ (Nat.le_trans putF_len (by simp)))))) ?_
    intro h8 tk8 S8
    refine x_setattr ?_ (by with_unfolding_all rfl)
    repeat (first | tbr_iter "zst" | (with_reducible first|refine lo87_self ‹_› ?_|refine lo87_parent ‹_› ?_))
    refine is_none ?_
    repeat (first | tbr_iter "zst" | (with_reducible first|refine lo87_self ‹_› ?_|refine lo87_parent ‹_› ?_))
    refine ite_pos rfl ?_
    repeat (first | tbr_iter "zst" | (with_reducible first|refine lo87_self ‹_› ?_|refine lo87_parent ‹_› ?_))
    refine u_set (pre := [(gl, isStrs []), (dc, isTab w [])]) (post := []) S8 (by simp; exact ⟨fun q => d1 q.symm, fun q => d0 q.symm⟩) ⟨ox, S8.F.keep _ _ gx, ix⟩ (sa125 _) (po125 _) (ta125_result _) (hd125 _) (Nat.le_trans putF_len (Nat.succ_le_succ (Nat.le_trans putF_len (Nat.succ_le_succ (Nat.le_trans putF_len (Nat.succ_le_succ (Nat.le_trans putF_len (by simp)))))))) ?_
    intro h10 tk10 S10
    repeat (first | tbr_iter "zst" | (with_reducible first|refine lo87_self ‹_› ?_|refine lo87_parent ‹_› ?_))
    exact fin S10
  | cons c1 c2 c3 c4 c5 c6 =>
    refine x_setattr ?_ (by with_unfolding_all rfl)
    repeat (first | tbr_iter "zst" | (with_reducible first|refine lo87_self ‹_› ?_|refine lo87_parent ‹_› ?_))
    refine is_none ?_
    repeat (first | tbr_iter "zst" | (with_reducible first|refine lo87_self ‹_› ?_|refine lo87_parent ‹_› ?_))
    refine ite_neg (fun q => nomatch q) ?_
    repeat (first | tbr_iter "zst" | (with_reducible first|refine lo87_self ‹_› ?_|refine lo87_parent ‹_› ?_) | tbr_iter "zcb")
    refine u_get S6 (c1.stays S6.F.keep) (c2.stays S6.F.keep) (ga125_end _) (hd125 _) (fa125_end _) rfl rfl rfl ?_
    intro tk8
    repeat (first | tbr_iter "zst" | (with_reducible first|refine lo87_self ‹_› ?_|refine lo87_parent ‹_› ?_))
    refine u_set (pre := [(gl, isStrs []), (dc, isTab w [])]) (post := []) S6 (by simp; exact ⟨fun q => d1 q.symm, fun q => d0 q.symm⟩) ⟨ox, S6.F.keep _ _ gx, ix⟩ (sa125 _) (po125 _) (ta125_end _) (hd125 _) (Nat.le_trans putF_len (Nat.succ_le_succ (Nat.le_trans putF_len (Nat.succ_le_succ (Nat.le_trans putF_len (by simp)))))) ?_
    intro h8 tk8 S8
    refine x_setattr ?_ (by with_unfolding_all rfl)
    repeat (first | tbr_iter "zst" | (with_reducible first|refine lo87_self ‹_› ?_|refine lo87_parent ‹_› ?_))
    refine is_none ?_
    repeat (first | tbr_iter "zst" | (with_reducible first|refine lo87_self ‹_› ?_|refine lo87_parent ‹_› ?_))
    refine ite_neg (fun q => nomatch q) ?_
    repeat (first | tbr_iter "zst" | (with_reducible first|refine lo87_self ‹_› ?_|refine lo87_parent ‹_› ?_) | tbr_iter "zcb")
    refine u_get S8 (c1.stays S8.F.keep) (c2.stays S8.F.keep) (ga125_result _) (hd125 _) (fa125_result _) rfl rfl rfl ?_
    intro tk10
    repeat (first | tbr_iter "zst" | (with_reducible first|refine lo87_self ‹_› ?_|refine lo87_parent ‹_› ?_))
    refine u_set (pre := [(gl, isStrs []), (dc, isTab w [])]) (post := []) S8 (by simp; exact ⟨fun q => d1 q.symm, fun q => d0 q.symm⟩) ⟨ox, S8.F.keep _ _ gx, ix⟩ (sa125 _) (po125 _) (ta125_result _) (hd125 _) (Nat.le_trans putF_len (Nat.succ_le_succ (Nat.le_trans putF_len (Nat.succ_le_succ (Nat.le_trans putF_len (Nat.succ_le_succ (Nat.le_trans putF_len (by simp)))))))) ?_
    intro h10 tk10 S10
    repeat (first | tbr_iter "zst" | (with_reducible first|refine lo87_self ‹_› ?_|refine lo87_parent ‹_› ?_))
    exact fin S10
end

section
variable {w : World} {A : Around} {E : Value → Shared → Prop} {s : Shared} {h₀ h : Heap} {tk : Nat}
theorem u_scope {p : Value} {c : Chain} {Q : Value → Shared → Prop} (R : Room 2 A) (B : Bs w h₀) (k₀ : h₀.StaysIn h) (hc : ScAt w h p c)
    (q : ∀ x dxs dc gl h' tk', h.StaysIn h' → Has h' (x, isInst 125 dxs) → Has h' (dxs, isFields (scF p dc gl)) → Has h' (dc, isTab w []) → Has h' (gl, isStrs []) → h.get? x = none → h.get? dxs = none → h.get? dc = none → h.get? gl = none → (dc == sysModules) = false → dxs ≠ dc → Q (.ref x) (up s h' tk')) :
    wpAny (model PW w) A (call (.ref 125) [p]) Q E (up s h tk) := by
  refine u_make2 (Φ := fun x dx h' h'' => ∃ dc gl, Has h'' (dx, isFields (scF p dc gl)) ∧ Has h'' (dc, isTab w []) ∧ Has h'' (gl, isStrs []) ∧ h'.get? dc = none ∧ h'.get? gl = none ∧ dc ≠ gl ∧ (dc == sysModules) = false ∧ dx ≠ dc) (B.keeps k₀).kin (mk125 _) (fi125 _) (if125 _)
    (fun x dx h' tk' kh hx hd nx nd xd => in87 (s := up s h' tk') R.make (B.keeps k₀) kh hx hd nd xd hc) ?_
  rintro x dx h' h'' tk'' k1 k2 hx nx nd xd ⟨dc, gl, e1, e2, e3, e4, e5, e6, e7, e8⟩
  have nn : ∀ {b : Addr}, h'.get? b = none → h.get? b = none := fun {b} e => by
    cases q : h.get? b with
    | none => rfl
    | some o => rw [k1 _ _ q] at e; cases e
  exact q x dx dc gl h'' tk'' k2 hx e1 e2 e3 nx nd (nn e4) (nn e5) e7 e8
end

section
variable {w : World} {A : Around} {E : Value → Shared → Prop} {s : Shared} {h : Heap} {tk : Nat}
theorem l_copy {a : Addr} {ls : List Str} {Q : Value → Shared → Prop} (ha : Has h (a, isStrs ls)) (hz : ls.length ≤ 1000)
    (q : ∀ b h' tk', h.StaysIn h' → b = h.objs.size → Has h' (b, isStrs ls) → Q (.ref b) (up s h' tk')) : wpAny (model PW w) A (call (.type "list") [.ref a]) Q E (up s h tk) := by
  obtain ⟨vs, n, hv, e⟩ := ha.strs
  exact call_list_seq (s := up s h tk) (hsz := by rw [List.size_toArray, hv.length]; simp only [sizeLine]; omega) a (.inl rfl) e rfl rfl fun h' c' k e' => q _ h' tk k rfl ⟨_, e', vs, c', hv, rfl⟩
end
theorem ms_bind (P : Params) : findIn (KK P) (.ref 125) "bind" = some (some (.ref 108)) := by kernel_rfl
theorem ms_known (P : Params) : findIn (KK P) (.ref 125) "is_known" = some (some (.ref 101)) := by kernel_rfl
theorem ms_find (P : Params) : findIn (KK P) (.ref 125) "find" = some (some (.ref 94)) := by kernel_rfl
theorem ms_open (P : Params) : findIn (KK P) (.ref 125) "open_for" = some (some (.ref 122)) := by kernel_rfl
theorem if_bind (P : Params) : isFn (KK P) (.ref 108) = true := by kernel_rfl
theorem if_known (P : Params) : isFn (KK P) (.ref 101) = true := by kernel_rfl
theorem if_find (P : Params) : isFn (KK P) (.ref 94) = true := by kernel_rfl
theorem if_open (P : Params) : isFn (KK P) (.ref 122) = true := by kernel_rfl
theorem pg_bind (P : Params) : plainGet (KK P) 125 "bind" = true := by kernel_rfl
theorem pg_known (P : Params) : plainGet (KK P) 125 "is_known" = true := by kernel_rfl
theorem pg_find (P : Params) : plainGet (KK P) 125 "find" = true := by kernel_rfl
theorem pg_open (P : Params) : plainGet (KK P) 125 "open_for" = true := by kernel_rfl
theorem kp167 (P : Params) : keepIn (KK P) (.ref 167) = true := by kernel_rfl
theorem kp125 (P : Params) : keepIn (KK P) (.ref 125) = true := by kernel_rfl

section
variable {w : World} {A : Around} {s : Shared} {h₀ : Heap}
/-- what is bound: each name a new cell -/
noncomputable def Bnd (kvs : List (Str × Value)) : Prop := ∀ q ∈ kvs, ∃ c, q.2 = .ref c
theorem valueAt_keys {kvs : List (Str × Value)} {nm : Str} : (valueAt kvs nm).isSome = (kvs.map (·.1)).any (· == nm) := by
  unfold valueAt
  rw [Option.isSome_map, List.any_map]
  induction kvs with
  | nil => rfl
  | cons q r ih =>
    rw [List.find?_cons, List.any_cons]
    by_cases e : q.1 = nm
    · simp [e]
    · simp [e, ih]
theorem keys_stored {kvs : List (Str × Value)} {x : Str} {v : Value} : (stored kvs x v).map (·.1) = pone (kvs.map (·.1)) x := by
  unfold stored pone
  have e : (kvs.any fun kv => decide (kv.1 = x)) = (kvs.map (·.1)).any (· == x) := by
    rw [List.any_map]
    congr 1
  by_cases q : ((kvs.map (·.1)).any (· == x)) = true
  · rw [if_pos (e.trans q), if_pos q, List.map_map]
    apply List.map_congr_left
    intro kv _
    show (if kv.1 = x then (kv.1, v) else kv).1 = kv.1
    split <;> rfl
  · rw [if_neg (fun z => q (e ▸ z)), if_neg q, List.map_append]; rfl
theorem Bnd.stored {kvs : List (Str × Value)} {x : Str} {c : Addr} (b : Bnd kvs) : Bnd (stored kvs x (.ref c)) := by
  intro q hq
  unfold PySem.stored at hq
  split at hq
  · obtain ⟨p, hp, e⟩ := List.mem_map.mp hq
    by_cases z : p.1 = x
    · rw [if_pos z] at e; exact ⟨c, by rw [← e]⟩
    · rw [if_neg z] at e; exact e ▸ b p hp
  · rcases List.mem_append.mp hq with hq | hq
    · exact b q hq
    · rw [List.mem_singleton.mp hq]; exact ⟨c, rfl⟩
/-- the names that a scope opened for a tree has: the told ones, and those assigned that are not known -/
noncomputable def okN (kn : Str → Bool) (ls : Ls) (n : Str) : Bool := !(ls.2.2.any (· == n)) && (!(ls.2.1.any (· == n)) && !(kn n))
noncomputable def due (kn : Str → Bool) (ls : Ls) (i : Nat) : List Str := ls.2.1 ++ (ls.1.take i).filter (okN kn ls)
theorem due_succ {kn : Str → Bool} {ls : Ls} {i : Nat} {n : Str} (h : ls.1[i]? = some n) : due kn ls (i + 1) = due kn ls i ++ (if okN kn ls n = true then [n] else []) := by
  unfold due
  rw [List.take_add_one, h, List.filter_append, ← List.append_assoc]
  congr 1
  show List.filter (okN kn ls) [n] = _
  rw [List.filter_cons, List.filter_nil]
theorem due_any {kn : Str → Bool} {ls : Ls} {i : Nat} {n : Str} (hn : ls.1.Nodup) (h : ls.1[i]? = some n) : (due kn ls i).any (· == n) = ls.2.1.any (· == n) := by
  unfold due
  rw [List.any_append]
  have : ((ls.1.take i).filter (okN kn ls)).any (· == n) = false := by
    rw [Bool.eq_false_iff]
    intro q
    have m := (List.mem_filter.mp (any_eq.mp q)).1
    obtain ⟨j, hj, e⟩ := List.getElem_of_mem m
    rw [List.length_take] at hj
    rw [List.getElem_take] at e
    obtain ⟨hi, e2⟩ := List.getElem?_eq_some_iff.mp h
    have := (List.getElem_inj hn).mp (e.trans e2.symm)
    omega
  rw [this, Bool.or_false]
theorem ne_has {h : Heap} {a b : Addr} {P Q : OP} (x : Has h (a, P)) (y : Has h (b, Q)) (k : ∀ o, P o → Q o → False) : a ≠ b := by
  rintro rfl
  obtain ⟨o, e, p⟩ := x
  obtain ⟨o', e', q⟩ := y
  rw [show h.get? a = some o from e] at e'; cases e'; exact k _ p q
theorem is_cls {ls : List Str} : ∀ o, isStrs ls o → o.cls = .type "list" := by rintro o ⟨vs, n, _, rfl⟩; rfl
theorem if_cls {fs : List (Str × Value)} : ∀ o, isFields fs o → o.cls = .type "dict" := by rintro o ⟨vs, n, rfl, _⟩; rfl
theorem ii_cls {C d : Addr} : ∀ o, isInst C d o → o.cls = .ref C := by rintro o rfl; rfl
theorem c_ld {o : Obj} (a : o.cls = .type "list") (b : o.cls = .type "dict") : False := absurd (Value.type.inj (a.symm.trans b)) (by decide)
theorem c_rt {o : Obj} {C : Addr} {x : String} (a : o.cls = .ref C) (b : o.cls = .type x) : False := by rw [a] at b; cases b
theorem it_cls {kvs : List (Str × Value)} : ∀ o, isTab w kvs o → o.cls = .type "dict" := by
  intro o ⟨es, ep, h, _⟩
  exact h.1
end

section
variable {w : World} {A : Around} {s : Shared} {h₀ : Heap}
noncomputable def LT (tx dt b0 b1 b2 : Addr) (ls : Ls) : Led := (tx, isInst 167 dt) :: (dt, isFields (flds "assigned" "locals" "globals" b0 b1 b2)) :: L3 b0 b1 b2 ls
theorem St.offm {g h h₁ h' : Heap} {L : Addr} {l l₁ : LM} {led led₁ : Led} {X : List Addr} (S₁ : St w g L l₁ led₁ h₁) (hI : ∀ i ∈ X, h₁.get? i = none) (SS : St w g L l led h) (e : led.map (·.1) = led₁.map (·.1)) (k : ∀ b o, b ∉ X → h.get? b = some o → h'.get? b = some o) : St w g L l led h' :=
  S₁.off hI SS (fun p hp => by
    have m : p.1 ∈ led₁.map (·.1) := e ▸ List.mem_map_of_mem hp
    obtain ⟨q, hq, e'⟩ := List.mem_map.mp m
    exact ⟨q.2, by rw [← e']; exact hq⟩) k
theorem sp_open {x dxs dc gl tl : Addr} {p v : Value} {ch : Chain} {t : T} {n : Nat} {es : List Ev} (R : Room 12 A) (B : Bs w h₀) (k₀ : h₀.StaysIn s.heap) (hx : Has s.heap (x, isInst 125 dxs)) (hf : Has s.heap (dxs, isFields (scF p dc gl))) (hd : Has s.heap (dc, isTab w []))
    (hp : ScAt w h₀ p ch) (hl : s.heap.IsList tl [v].toArray) (ht : TreeAt s.heap v t) (hw : Wk n t es) (hn : n ≤ 600) (nd : h₀.get? dxs = none) (ndc : h₀.get? dc = none) (ne1 : x ≠ dc) (ne2 : x ≠ dxs) (ne3 : dxs ≠ dc) (ntl : tl ≠ dc ∧ tl ≠ dxs) (sm : (dc == sysModules) = false) :
    wpAny (model PW w) A (call (.ref 122) [.ref x, .ref tl]) (Ret s [dxs, dc] fun _ h' => ∃ gl' kvs, Has h' (dxs, isFields (scF p dc gl')) ∧ Has h' (gl', isStrs (run es ([], [], [])).2.2) ∧ s.heap.get? gl' = none ∧ Has h' (dc, isTab w kvs) ∧ Bnd kvs ∧ kvs.map (·.1) = due (fun n => known n ch) (run es ([], [], [])) (run es ([], [], [])).1.length) NoE s := by
  refine en122 R B k₀ [(dxs, isFields (scF p dc gl)), (dc, isTab w [])] (fun q hq => by
    rcases List.mem_cons.mp hq with rfl | hq
    · exact ⟨hf, nd⟩
    · rw [List.mem_singleton.mp hq]; exact ⟨hd, ndc⟩) ?_
  intro g L h₁ tk SS hg kg kg' k₁ R'
  have out : ∀ {b : Addr}, b ≠ dxs → b ≠ dc → b ∉ ([(dxs, isFields (scF p dc gl)), (dc, isTab w [])] : Led).map (·.1) := fun a b q => by
    rcases List.mem_cons.mp q with e | q
    · exact a e
    · exact b (List.mem_singleton.mp q)
  have ht' := ht.kg kg (by
    intro a ha o e q
    rcases List.mem_cons.mp ha with rfl | ha
    · obtain ⟨o', e', P⟩ := hf; rw [show s.heap.get? _ = some o' from e'] at e; cases e; exact absurd (Value.type.inj ((if_cls _ P).symm.trans q.1)) (by decide)
    · obtain ⟨o', e', P⟩ := hd; rw [List.mem_singleton.mp ha, show s.heap.get? _ = some o' from e'] at e; cases e; exact absurd (Value.type.inj ((it_cls _ P).symm.trans q.1)) (by decide))
  have gx : Has g (x, isInst 125 dxs) := let ⟨o, e, P⟩ := hx; ⟨o, kg _ _ (out ne2 ne1) e, P⟩
  have gl0 : g.IsList tl [v].toArray := let ⟨o, e, c, m, d⟩ := hl; ⟨o, kg _ _ (out ntl.2 ntl.1) e, c, m, d⟩
  have gp : ScAt w g p ch := hp.mono hg
  refine x_asg ?_ (by rfl)
  repeat (first | tbr_iter "zst" | (with_reducible first|refine lo122_self ‹_› ?_|refine lo122_trees ‹_› ?_|refine lo122_told ‹_› ?_|refine lo122_tree ‹_› ?_|refine lo122_name ‹_› ?_|refine lo122_Names ‹_› ?_|refine lo122_list ‹_› ?_) | (with_reducible refine Call_ ?_ (by with_unfolding_all rfl)))
  refine callWith_K0 SS.kin (kp167 _) ?_
  refine u_names (R'.le (by decide)) B (fun b o e => SS.F.keep b o (hg b o e)) ?_
  intro tx dt b0 b1 b2 h2 tk2 k2 hT hTd nT nTd N3 hL
  have S2 := SS.keeps k2
  have nn : ∀ {b : Addr}, h₁.get? b = none → b ≠ L ∧ g.get? b = none := fun {b} e => ⟨fun q => SS.low (q ▸ e), by
    cases q : g.get? b with
    | none => rfl
    | some o => have := SS.F.keep _ _ q; rw [e] at this; cases this⟩
  have H0 := hL _ (.head _)
  have H1 := hL _ (.tail _ (.head _))
  have H2 := hL _ (.tail _ (.tail _ (.head _)))
  have S4 := ((((S2.add H2.1 (nn H2.2).1 (nn H2.2).2).add H1.1 (nn H1.2).1 (nn H1.2).2).add H0.1 (nn H0.2).1 (nn H0.2).2).add hTd (nn nTd).1 (nn nTd).2).add hT (nn nT).1 (nn nT).2
  have S5 : St w g L _ ([(dxs, isFields (scF p dc gl)), (dc, isTab w [])] ++ LT tx dt b0 b1 b2 ([], [], [])) h2 := S4.sub fun q hq => by
    simp only [LT, L3, List.cons_append, List.nil_append, List.mem_cons, List.not_mem_nil, or_false] at hq ⊢
    rcases hq with e | e | e | e | e | e | e
    · exact .inr (.inr (.inr (.inr (.inr (.inl e)))))
    · exact .inr (.inr (.inr (.inr (.inr (.inr e)))))
    · exact .inl e
    · exact .inr (.inl e)
    · exact .inr (.inr (.inl e))
    · exact .inr (.inr (.inr (.inl e)))
    · exact .inr (.inr (.inr (.inr (.inl e))))
  clear S4
  have old : ∀ {a b : Addr} {P : OP}, Has h₁ (a, P) → h₁.get? b = none → a ≠ b := fun {a b P} ⟨o, e, _⟩ n q => by subst q; rw [show h₁.get? a = some o from e] at n; cases n
  have D1 := (SS.N _ (.head _)).1
  have D2 := (SS.N _ (.tail _ (.head _))).1
  -- where the told lists lie
  have T0 : ∀ q ∈ [b0, b1, b2], ∃ ls : List Str, Has h2 (q, isStrs ls) ∧ h₁.get? q = none := fun q hq => by
    rcases List.mem_cons.mp hq with rfl | hq
    · exact ⟨_, H0⟩
    · rcases List.mem_cons.mp hq with rfl | hq
      · exact ⟨_, H1⟩
      · rw [List.mem_singleton.mp hq]; exact ⟨_, H2⟩
  have apart : ∀ {F : OP} {F2 : OP}, ∀ q ∈ ([(dxs, F), (dc, F2), (tx, isInst 167 dt), (dt, isFields (flds "assigned" "locals" "globals" b0 b1 b2))] : Led), q.1 ∉ [b0, b1, b2] := fun q hq m => by
    obtain ⟨ls, z, zn⟩ := T0 _ m
    simp only [List.mem_cons, List.not_mem_nil, or_false] at hq
    rcases hq with rfl | rfl | rfl | rfl
    · exact old D1 zn rfl
    · exact old D2 zn rfl
    · exact ne_has hT z (fun o a b => c_rt (ii_cls _ a) (is_cls _ b)) rfl
    · exact ne_has hTd z (fun o a b => c_ld (is_cls _ b) (if_cls _ a)) rfl
  have tne : ∀ {ls : Ls}, ∀ q ∈ LT tx dt b0 b1 b2 ls, q.1 ≠ dxs ∧ q.1 ≠ dc := fun q hq => by
    have z : h₁.get? q.1 = none := by
      simp only [LT, L3, List.mem_cons, List.not_mem_nil, or_false] at hq
      rcases hq with rfl | rfl | rfl | rfl | rfl
      · exact nT
      · exact nTd
      · exact H0.2
      · exact H1.2
      · exact H2.2
    exact ⟨fun e => old D1 (e ▸ z) rfl, fun e => old D2 (e ▸ z) rfl⟩
  have n0 : ∀ {b : Addr}, g.get? b = none → h₀.get? b = none := fun {b} e => by
    cases q : h₀.get? b with
    | none => rfl
    | some o => rw [hg _ _ q] at e; cases e
  refine so122_told S5 ?_
  intro h3 tk3 S3 k3
  refine x_cons ?_
  refine r_for ?_ (by intro x; with_unfolding_all rfl)
  repeat (first | tbr_iter "zst" | (with_reducible first|refine lo122_self ‹_› ?_|refine lo122_trees ‹_› ?_|refine lo122_told ‹_› ?_|refine lo122_tree ‹_› ?_|refine lo122_name ‹_› ?_|refine lo122_Names ‹_› ?_|refine lo122_list ‹_› ?_))
  have hl3 : h3.IsList tl [v].toArray := let ⟨o, e, r⟩ := gl0; ⟨o, S3.F.keep _ _ e, r⟩
  refine ⟨h3, tk3, _, _, _, rfl, IterOf.list R'.1 hl3, fun I hI => ?_⟩
  have In : ∀ {q : Addr} {P : OP}, Has h3 (q, P) → I ≠ q := fun {q P} ⟨o, e, _⟩ z => by subst z; rw [show h3.get? I = some o from e] at hI; cases hI
  have IL : I ≠ L := fun q => S3.low (q ▸ hI)
  have I0 := In (S3.N _ (.tail _ (.tail _ (.tail _ (.tail _ (.head _)))))).1
  have I1 := In (S3.N _ (.tail _ (.tail _ (.tail _ (.tail _ (.tail _ (.head _))))))).1
  have I2 := In (S3.N _ (.tail _ (.tail _ (.tail _ (.tail _ (.tail _ (.tail _ (.head _)))))))).1
  obtain ⟨otl, etl, _⟩ := id gl0
  have tlL : tl ≠ L := fun q => by have := SS.gL; rw [← q, etl] at this; cases this
  have tlb : ∀ {q : Addr}, g.get? q = none → tl ≠ q := fun e q => by rw [← q, etl] at e; cases e
  have I3 : I ∉ [b0, b1, b2] := fun q => by
    rcases List.mem_cons.mp q with e | q
    · exact I0 e
    · rcases List.mem_cons.mp q with e | q
      · exact I1 e
      · exact I2 (List.mem_singleton.mp q)
  have tl3 : tl ∉ [b0, b1, b2] := fun q => by
    rcases List.mem_cons.mp q with e | q
    · exact tlb (nn H0.2).2 e
    · rcases List.mem_cons.mp q with e | q
      · exact tlb (nn H1.2).2 e
      · exact tlb (nn H2.2).2 (List.mem_singleton.mp q)
  refine ⟨fun i h => ∃ o cur, (i = 0 → cur = ([], [], [])) ∧ (i = 1 → cur = run es ([], [], [])) ∧ St w g L (V122 (some (.ref x)) (some (.ref tl)) (some (.ref tx)) o none) ([(dxs, isFields (scF p dc gl)), (dc, isTab w [])] ++ LT tx dt b0 b1 b2 cur) h, fun h4 k4 => ⟨_, _, fun _ => rfl, (fun q => nomatch q), S3.keeps k4⟩, ?_, ?_, ?_⟩
  · rintro i h h' ⟨o, cur, e0, e1, J⟩ nt k
    exact ⟨o, cur, e0, e1, S3.offm (X := [I]) (fun i hi => by rw [List.mem_singleton.mp hi]; exact hI) J rfl k⟩
  · rintro i v' h4 tk4 hi hv ⟨o, cur, e0, e1, J⟩ hI4
    have i0 : i = 0 := by simpa using hi
    subst i0
    have ev : v' = v := by have hv' : some v = some v' := hv; exact (Option.some.inj hv').symm
    subst ev
    have ec := e0 rfl
    subst ec
    refine so122_tree J ?_
    intro h5 tk5 S5' k5
    have hxi := (S5'.N _ (.tail _ (.tail _ (.head _)))).1
    have hxf := (S5'.N _ (.tail _ (.tail _ (.tail _ (.head _))))).1
    repeat (first | tbr_iter "zst" | (with_reducible first|refine lo122_self ‹_› ?_|refine lo122_trees ‹_› ?_|refine lo122_told ‹_› ?_|refine lo122_tree ‹_› ?_|refine lo122_name ‹_› ?_|refine lo122_Names ‹_› ?_|refine lo122_list ‹_› ?_) | tbr_iter "zcb")
    refine u_meth S5' hxi hxf (pg_look _) (ms_look _) (if_look _) rfl ?_
    refine callWith_put S5'.kin (kp150 _) (by with_unfolding_all rfl) (by with_unfolding_all rfl) ?_
    repeat (first | tbr_iter "zst" | (with_reducible first|refine lo122_self ‹_› ?_|refine lo122_trees ‹_› ?_|refine lo122_told ‹_› ?_|refine lo122_tree ‹_› ?_|refine lo122_name ‹_› ?_|refine lo122_Names ‹_› ?_|refine lo122_list ‹_› ?_))
    have H5 : ∀ q ∈ L3 b0 b1 b2 ([], [], []), Has h5 q ∧ h₀.get? q.1 = none := fun q hq => let z := S5'.N q (.tail _ (.tail _ (.tail _ (.tail _ hq)))); ⟨z.1, n0 z.2.2⟩
    refine ⟨S5'.kin, r_use (sp_look (R'.le (by decide)) B (fun b o e => S5'.F.keep b o (hg b o e)) (ht'.mono (TupKeep.of_stays S5'.F.keep)) hw ⟨dt, hxi, hxf⟩ H5 N3 ⟨Gd.nil, Gd.nil, Gd.nil⟩ hn) ?_⟩
    rintro r h6 tk6 k6 x6
    have S6 := St.call3g (pre := [(dxs, isFields (scF p dc gl)), (dc, isTab w []), (tx, isInst 167 dt), (dt, isFields (flds "assigned" "locals" "globals" b0 b1 b2))]) S5' apart k6 x6
    repeat (first | tbr_iter "zst")
    refine forK_next (fun c hc o e => k6 c o ?_ (k5 c o ?_ e)) ⟨_, _, (fun q => nomatch q), fun _ => rfl, S6⟩
    · rcases List.mem_cons.mp hc with rfl | hc
      · exact I3
      · rw [List.mem_singleton.mp hc]; exact tl3
    · rcases List.mem_cons.mp hc with rfl | hc
      · exact IL
      · rw [List.mem_singleton.mp hc]; exact tlL
  · rintro h4 tk4 ⟨ot, cur, e0, e1, S4⟩
    have ec := e1 rfl
    subst ec
    refine seqK_next ?_
    have G : Gds (run es ([], [], [])) := Gds.run ⟨Gd.nil, Gd.nil, Gd.nil⟩ hw.ok
    generalize hls : run es ([], [], []) = ls at *
    refine x_setattr ?_ (by with_unfolding_all rfl)
    repeat (first | tbr_iter "zst" | (with_reducible first|refine lo122_self ‹_› ?_|refine lo122_trees ‹_› ?_|refine lo122_told ‹_› ?_|refine lo122_tree ‹_› ?_|refine lo122_name ‹_› ?_|refine lo122_Names ‹_› ?_|refine lo122_list ‹_› ?_) | tbr_iter "zcb")
    refine u_get S4 (S4.N _ (.tail _ (.tail _ (.head _)))).1 (S4.N _ (.tail _ (.tail _ (.tail _ (.head _))))).1 (ga167_globals _) (hd167 _) (fa167_globals _) rfl rfl rfl ?_
    intro tk5
    repeat (first | tbr_iter "zst" | (with_reducible first|refine lo122_self ‹_› ?_|refine lo122_trees ‹_› ?_|refine lo122_told ‹_› ?_|refine lo122_tree ‹_› ?_|refine lo122_name ‹_› ?_|refine lo122_Names ‹_› ?_|refine lo122_list ‹_› ?_) | tbr_iter "zcb")
    refine l_copy (S4.N _ (.tail _ (.tail _ (.tail _ (.tail _ (.tail _ (.tail _ (.head _)))))))).1 (Nat.le_trans G.2.2.len (by decide)) ?_
    intro gl' h5 tk6 k5 eg xg
    have fr := S4.fresh
    have S5' := (S4.keeps k5).add xg (eg ▸ fr.2.1) (eg ▸ fr.1)
    have ngl : ∀ q ∈ [(dxs, isFields (scF p dc gl)), (dc, isTab w [])] ++ LT tx dt b0 b1 b2 ls, q.1 ≠ gl' := fun q hq e => fr.2.2 q hq (e.trans eg)
    repeat (first | tbr_iter "zst" | (with_reducible first|refine lo122_self ‹_› ?_|refine lo122_trees ‹_› ?_|refine lo122_told ‹_› ?_|refine lo122_tree ‹_› ?_|refine lo122_name ‹_› ?_|refine lo122_Names ‹_› ?_|refine lo122_list ‹_› ?_) | tbr_iter "zcb")
    have hF : putF (Str.ofString "globals") (.ref gl') (scF p dc gl) = scF p dc gl' := by rfl
    refine u_set (pre := [(gl', isStrs ls.2.2)]) (post := (dc, isTab w []) :: LT tx dt b0 b1 b2 ls) S5' (fun q hq => ?_) (gx.stays S5'.F.keep) (sa125 _) (po125 _) (ta125_globals _) (hd125 _) (by simp [scF]) ?_
    · rcases List.mem_cons.mp hq with rfl | hq
      · exact fun e => ngl _ (.head _) e.symm
      · rcases List.mem_cons.mp hq with rfl | hq
        · exact ne3.symm
        · exact (tne _ hq).1
    intro h6 tk7 S6
    rw [hF] at S6
    have ngd : gl' ≠ dc := fun e => ngl _ (.tail _ (.head _)) e.symm
    have ndl : ∀ {F F2 : OP}, ∀ q ∈ ([(gl', F), (dxs, F2)] ++ LT tx dt b0 b1 b2 ls : Led), q.1 ≠ dc := fun q hq => by
      rcases List.mem_cons.mp hq with rfl | hq
      · exact ngd
      · rcases List.mem_cons.mp hq with rfl | hq
        · exact ne3
        · exact (tne _ hq).2
    have tb : ∀ {F F2 F3 : OP} {l : LM} {h : Heap}, St w g L l ([(gl', F), (dxs, F2), (dc, F3)] ++ LT tx dt b0 b1 b2 ls) h → Has h (tx, isInst 167 dt) ∧ Has h (dt, isFields (flds "assigned" "locals" "globals" b0 b1 b2)) ∧ Has h (b0, isStrs ls.1) ∧ Has h (b1, isStrs ls.2.1) ∧ Has h (b2, isStrs ls.2.2) := fun S =>
      ⟨(S.N _ (.tail _ (.tail _ (.tail _ (.head _))))).1, (S.N _ (.tail _ (.tail _ (.tail _ (.tail _ (.head _)))))).1, (S.N _ (.tail _ (.tail _ (.tail _ (.tail _ (.tail _ (.head _))))))).1, (S.N _ (.tail _ (.tail _ (.tail _ (.tail _ (.tail _ (.tail _ (.head _)))))))).1, (S.N _ (.tail _ (.tail _ (.tail _ (.tail _ (.tail _ (.tail _ (.tail _ (.head _))))))))).1⟩
    have b1L : b1 ≠ L := (nn H1.2).1
    have b0L : b0 ≠ L := (nn H0.2).1
    have b1d : b1 ≠ dc := (tne (ls := ls) _ (.tail _ (.tail _ (.tail _ (.head _))))).2
    have b0d : b0 ≠ dc := (tne (ls := ls) _ (.tail _ (.tail _ (.head _)))).2
    repeat (first | tbr_iter "zst")
    refine x_cons ?_
    refine r_for ?_ (by intro x; with_unfolding_all rfl)
    repeat (first | tbr_iter "zst" | (with_reducible first|refine lo122_self ‹_› ?_|refine lo122_trees ‹_› ?_|refine lo122_told ‹_› ?_|refine lo122_tree ‹_› ?_|refine lo122_name ‹_› ?_|refine lo122_Names ‹_› ?_|refine lo122_list ‹_› ?_) | tbr_iter "zcb")
    have T6 := tb S6
    refine u_get S6 T6.1 T6.2.1 (ga167_locals _) (hd167 _) (fa167_locals _) rfl rfl rfl ?_
    intro tk8
    obtain ⟨vs1, n1, hv1, ev1⟩ := T6.2.2.2.1.strs
    refine ⟨h6, tk8, _, _, _, rfl, IterOf.list (vs := vs1) R'.1 ⟨_, ev1, rfl, _, rfl⟩, fun I hI => ?_⟩
    have In : ∀ {q : Addr} {P : OP}, Has h6 (q, P) → I ≠ q := fun {q P} ⟨o, e, _⟩ z => by subst z; rw [show h6.get? I = some o from e] at hI; cases hI
    have IL : I ≠ L := fun q => S6.low (q ▸ hI)
    have Id : I ≠ dc := In (S6.N _ (.tail _ (.tail _ (.head _)))).1
    refine ⟨fun i h => ∃ o kvs, Bnd kvs ∧ kvs.length ≤ i ∧ kvs.map (·.1) = ls.2.1.take i ∧ St w g L (V122 (some (.ref x)) (some (.ref tl)) (some (.ref tx)) ot o) ([(gl', isStrs ls.2.2), (dxs, isFields (scF p dc gl')), (dc, isTab w kvs)] ++ LT tx dt b0 b1 b2 ls) h, fun h7 k7 => ⟨_, [], (fun _ h => nomatch h), Nat.le_refl _, rfl, S6.keeps k7⟩, ?_, ?_, ?_⟩
    · rintro i h h' ⟨o, kvs, j1, j2, j3, J⟩ nt k
      exact ⟨o, kvs, j1, j2, j3, S6.offm (X := [I]) (fun i hi => by rw [List.mem_singleton.mp hi]; exact hI) J rfl k⟩
    · rintro i v' h7 tk9 hi hv ⟨o, kvs, j1, j2, j3, J⟩ hI7
      obtain ⟨nm, tn, hnm, rfl⟩ := strs_at hv1 hv
      have hi5 : i < 5 := by
        have := G.2.1.len
        have := (List.getElem?_eq_some_iff.mp hnm).1
        omega
      refine so122_name J ?_
      intro h8 tk10 S8 k8
      repeat (first | tbr_iter "zst" | (with_reducible first|refine lo122_self ‹_› ?_|refine lo122_trees ‹_› ?_|refine lo122_told ‹_› ?_|refine lo122_tree ‹_› ?_|refine lo122_name ‹_› ?_|refine lo122_Names ‹_› ?_|refine lo122_list ‹_› ?_) | tbr_iter "zcb")
      have F8 := (S8.N _ (.tail _ (.head _))).1
      have D8 := (S8.N _ (.tail _ (.tail _ (.head _)))).1
      refine u_meth S8 (gx.stays S8.F.keep) F8 (pg_bind _) (ms_bind _) (if_bind _) rfl ?_
      refine callWith_put S8.kin (kp108 _) (by with_unfolding_all rfl) (by with_unfolding_all rfl) ?_
      repeat (first | tbr_iter "zst" | (with_reducible first|refine lo122_self ‹_› ?_|refine lo122_trees ‹_› ?_|refine lo122_told ‹_› ?_|refine lo122_tree ‹_› ?_|refine lo122_name ‹_› ?_|refine lo122_Names ‹_› ?_|refine lo122_list ‹_› ?_))
      refine ⟨S8.kin, r_use (sp_bind (R'.le (by decide)) B (fun b o e => S8.F.keep b o (hg b o e)) (gx.stays S8.F.keep) F8 rfl D8 ndc ne1 ne3 (by omega)) ?_⟩
      rintro r h9 tk11 k9 ⟨c, dx, _, _, _, _, x9⟩
      have S9 := St.upd (pre := [(gl', isStrs ls.2.2), (dxs, isFields (scF p dc gl'))]) (post := LT tx dt b0 b1 b2 ls) (P' := isTab w (stored kvs nm (.ref c))) S8 ndl k9 x9
      repeat (first | tbr_iter "zst")
      refine forK_next (fun c hc o e => k9 c o ?_ (k8 c o ?_ e)) ⟨_, _, j1.stored, ?_, ?_, S9⟩
      · rcases List.mem_cons.mp hc with rfl | hc
        · exact fun q => Id (List.mem_singleton.mp q)
        · rw [List.mem_singleton.mp hc]; exact fun q => b1d (List.mem_singleton.mp q)
      · rcases List.mem_cons.mp hc with rfl | hc
        · exact IL
        · rw [List.mem_singleton.mp hc]; exact b1L
      · have : (stored kvs nm (.ref c)).length = ((stored kvs nm (.ref c)).map (·.1)).length := by rw [List.length_map]
        rw [this, keys_stored]
        have := pone_len (l := kvs.map (·.1)) (x := nm)
        rw [List.length_map] at this; omega
      · rw [keys_stored, j3, List.take_add_one, hnm]
        refine pone_new fun m => ?_
        obtain ⟨j, hj, e⟩ := List.getElem_of_mem m
        rw [List.length_take] at hj
        rw [List.getElem_take] at e
        obtain ⟨hi, e2⟩ := List.getElem?_eq_some_iff.mp hnm
        have := (List.getElem_inj G.2.1.1).mp (e.trans e2.symm)
        omega
    · rintro h7 tk9 ⟨o, kvs, j1, j2, j3, S7⟩
      have j3' : kvs.map (·.1) = due (fun n => known n ch) ls 0 := by
        rw [j3, hv1.length, List.take_length]; unfold due; rw [List.take_zero, List.filter_nil, List.append_nil]
      have j2' : kvs.length ≤ 5 := Nat.le_trans j2 (by rw [hv1.length]; exact G.2.1.len)
      clear j2 j3
      refine seqK_next ?_
      refine x_cons ?_
      refine r_for ?_ (by intro x; with_unfolding_all rfl)
      repeat (first | tbr_iter "zst" | (with_reducible first|refine lo122_self ‹_› ?_|refine lo122_trees ‹_› ?_|refine lo122_told ‹_› ?_|refine lo122_tree ‹_› ?_|refine lo122_name ‹_› ?_|refine lo122_Names ‹_› ?_|refine lo122_list ‹_› ?_) | tbr_iter "zcb")
      have T7 := tb S7
      refine u_get S7 T7.1 T7.2.1 (ga167_assigned _) (hd167 _) (fa167_assigned _) rfl rfl rfl ?_
      intro tk10
      obtain ⟨vs0, n0', hv0, ev0⟩ := T7.2.2.1.strs
      refine ⟨h7, tk10, _, _, _, rfl, IterOf.list (vs := vs0) R'.1 ⟨_, ev0, rfl, _, rfl⟩, fun I hI => ?_⟩
      have In : ∀ {q : Addr} {P : OP}, Has h7 (q, P) → I ≠ q := fun {q P} ⟨o, e, _⟩ z => by subst z; rw [show h7.get? I = some o from e] at hI; cases hI
      have IL : I ≠ L := fun q => S7.low (q ▸ hI)
      have Id : I ≠ dc := In (S7.N _ (.tail _ (.tail _ (.head _)))).1
      refine ⟨fun i h => ∃ o kvs, Bnd kvs ∧ kvs.length ≤ 5 + i ∧ kvs.map (·.1) = due (fun n => known n ch) ls i ∧ St w g L (V122 (some (.ref x)) (some (.ref tl)) (some (.ref tx)) ot o) ([(gl', isStrs ls.2.2), (dxs, isFields (scF p dc gl')), (dc, isTab w kvs)] ++ LT tx dt b0 b1 b2 ls) h, fun h8 k8 => ⟨_, kvs, j1, j2', j3', S7.keeps k8⟩, ?_, ?_, ?_⟩
      · rintro i h h' ⟨o, kvs, j1, j2, j3, J⟩ nt k
        exact ⟨o, kvs, j1, j2, j3, S7.offm (X := [I]) (fun i hi => by rw [List.mem_singleton.mp hi]; exact hI) J rfl k⟩
      · clear j1 j2' j3'
        rintro i v' h8 tk11 hi hv ⟨o, kvs, j1, j2, j3, J⟩ hI8
        obtain ⟨nm, tn, hnm, rfl⟩ := strs_at hv0 hv
        have hi5 : i < 5 := by
          have := G.1.len
          have := (List.getElem?_eq_some_iff.mp hnm).1
          omega
        have keyA := due_any (kn := fun n => known n ch) G.1.1 hnm
        refine so122_name J ?_
        intro h9 tk12 S9 k9
        have T9 := tb S9
        have keep9 : ∀ b ∈ [I, b0], ∀ o, h8.get? b = some o → h9.get? b = some o := fun c hc o e => by
          refine k9 c o ?_ e
          rcases List.mem_cons.mp hc with rfl | hc
          · exact IL
          · rw [List.mem_singleton.mp hc]; exact b0L
        have same : ∀ {h : Heap}, okN (fun n => known n ch) ls nm = false → St w g L (V122 (some (.ref x)) (some (.ref tl)) (some (.ref tx)) ot (some (.str nm tn))) ([(gl', isStrs ls.2.2), (dxs, isFields (scF p dc gl')), (dc, isTab w kvs)] ++ LT tx dt b0 b1 b2 ls) h → ∃ o kvs, Bnd kvs ∧ kvs.length ≤ 5 + (i + 1) ∧ kvs.map (·.1) = due (fun n => known n ch) ls (i + 1) ∧ St w g L (V122 (some (.ref x)) (some (.ref tl)) (some (.ref tx)) ot o) ([(gl', isStrs ls.2.2), (dxs, isFields (scF p dc gl')), (dc, isTab w kvs)] ++ LT tx dt b0 b1 b2 ls) h := fun {h} ok S => ⟨_, kvs, j1, by omega, by rw [due_succ hnm, ok, j3]; simp, S⟩
        refine x_if ?_
        repeat (first | tbr_iter "zst" | (with_reducible first|refine lo122_self ‹_› ?_|refine lo122_trees ‹_› ?_|refine lo122_told ‹_› ?_|refine lo122_tree ‹_› ?_|refine lo122_name ‹_› ?_|refine lo122_Names ‹_› ?_|refine lo122_list ‹_› ?_) | tbr_iter "zcb")
        refine u_get S9 T9.1 T9.2.1 (ga167_globals _) (hd167 _) (fa167_globals _) rfl rfl rfl ?_
        intro tk13
        repeat (first | tbr_iter "zst" | (with_reducible first|refine lo122_self ‹_› ?_|refine lo122_trees ‹_› ?_|refine lo122_told ‹_› ?_|refine lo122_tree ‹_› ?_|refine lo122_name ‹_› ?_|refine lo122_Names ‹_› ?_|refine lo122_list ‹_› ?_) | tbr_iter "zcb")
        refine c_notin T9.2.2.2.2 ?_
        repeat (first | tbr_iter "zst" | (with_reducible first|refine lo122_self ‹_› ?_|refine lo122_trees ‹_› ?_|refine lo122_told ‹_› ?_|refine lo122_tree ‹_› ?_|refine lo122_name ‹_› ?_|refine lo122_Names ‹_› ?_|refine lo122_list ‹_› ?_) | tbr_iter "zcb")
        by_cases q1 : (ls.2.2.any (· == nm)) = true
        · refine ite_neg (by rw [q1]; decide) ?_
          repeat (first | tbr_iter "zst" | tbr_iter "zif")
          exact forK_next keep9 (same (by unfold okN; rw [q1]; rfl) S9)
        have q1' := Bool.eq_false_iff.mpr q1
        refine ite_pos (by rw [q1']; decide) ?_
        repeat (first | tbr_iter "zst" | (with_reducible first|refine lo122_self ‹_› ?_|refine lo122_trees ‹_› ?_|refine lo122_told ‹_› ?_|refine lo122_tree ‹_› ?_|refine lo122_name ‹_› ?_|refine lo122_Names ‹_› ?_|refine lo122_list ‹_› ?_) | tbr_iter "zcb")
        have F9 := (S9.N _ (.tail _ (.head _))).1
        have D9 := (S9.N _ (.tail _ (.tail _ (.head _)))).1
        refine u_meth S9 (gx.stays S9.F.keep) F9 (pg_known _) (ms_known _) (if_known _) rfl ?_
        refine callWith_put S9.kin (kp101 _) (by with_unfolding_all rfl) (by with_unfolding_all rfl) ?_
        repeat (first | tbr_iter "zst" | (with_reducible first|refine lo122_self ‹_› ?_|refine lo122_trees ‹_› ?_|refine lo122_told ‹_› ?_|refine lo122_tree ‹_› ?_|refine lo122_name ‹_› ?_|refine lo122_Names ‹_› ?_|refine lo122_list ‹_› ?_))
        refine u_pure S9 (sp_known (c := (kvs, ls.2.2) :: ch) (R'.le (by decide)) B (fun b o e => S9.F.keep b o (hg b o e)) (.cons (gx.stays S9.F.keep) F9 D9 (S9.N _ (.head _)).1 sm (gp.mono S9.F.keep))) ?_
        rintro r h10 tk14 k10 S10 rfl
        repeat (first | tbr_iter "zst")
        have hk' : known nm ((kvs, ls.2.2) :: ch) = ((ls.2.1.any (· == nm)) || known nm ch) := by
          show (((valueAt kvs nm).isSome || ls.2.2.any (· == nm)) || known nm ch) = _
          rw [valueAt_keys, j3, keyA, q1', Bool.or_false]
        rw [hk']
        have okE : okN (fun n => known n ch) ls nm = !(ls.2.1.any (· == nm) || known nm ch) := by
          unfold okN; rw [q1', Bool.not_or]; rfl
        have keep10 : ∀ b ∈ [I, b0], ∀ o, h8.get? b = some o → h10.get? b = some o := fun c hc o e => k10 c o (keep9 c hc o e)
        by_cases q2 : (ls.2.1.any (· == nm) || known nm ch) = true
        · refine ite_neg (by rw [q2]; decide) ?_
          repeat (first | tbr_iter "zst" | tbr_iter "zif")
          exact forK_next keep10 (same (by rw [okE, q2]; rfl) S10)
        have q2' := Bool.eq_false_iff.mpr q2
        refine ite_pos (by rw [q2']; decide) ?_
        repeat (first | tbr_iter "zst" | (with_reducible first|refine lo122_self ‹_› ?_|refine lo122_trees ‹_› ?_|refine lo122_told ‹_› ?_|refine lo122_tree ‹_› ?_|refine lo122_name ‹_› ?_|refine lo122_Names ‹_› ?_|refine lo122_list ‹_› ?_) | tbr_iter "zcb" | tbr_iter "zif")
        have F10 := (S10.N _ (.tail _ (.head _))).1
        have D10 := (S10.N _ (.tail _ (.tail _ (.head _)))).1
        refine u_meth S10 (gx.stays S10.F.keep) F10 (pg_bind _) (ms_bind _) (if_bind _) rfl ?_
        refine callWith_put S10.kin (kp108 _) (by with_unfolding_all rfl) (by with_unfolding_all rfl) ?_
        repeat (first | tbr_iter "zst" | (with_reducible first|refine lo122_self ‹_› ?_|refine lo122_trees ‹_› ?_|refine lo122_told ‹_› ?_|refine lo122_tree ‹_› ?_|refine lo122_name ‹_› ?_|refine lo122_Names ‹_› ?_|refine lo122_list ‹_› ?_))
        refine ⟨S10.kin, r_use (sp_bind (R'.le (by decide)) B (fun b o e => S10.F.keep b o (hg b o e)) (gx.stays S10.F.keep) F10 rfl D10 ndc ne1 ne3 (by omega)) ?_⟩
        rintro r h11 tk15 k11 ⟨c, dx, _, _, _, _, x11⟩
        have S11 := St.upd (pre := [(gl', isStrs ls.2.2), (dxs, isFields (scF p dc gl'))]) (post := LT tx dt b0 b1 b2 ls) (P' := isTab w (stored kvs nm (.ref c))) S10 ndl k11 x11
        repeat (first | tbr_iter "zst")
        refine forK_next (fun c hc o e => k11 c o ?_ (keep10 c hc o e)) ⟨_, _, j1.stored, ?_, ?_, S11⟩
        · rcases List.mem_cons.mp hc with rfl | hc
          · exact fun q => Id (List.mem_singleton.mp q)
          · rw [List.mem_singleton.mp hc]; exact fun q => b0d (List.mem_singleton.mp q)
        · have : (stored kvs nm (.ref c)).length = ((stored kvs nm (.ref c)).map (·.1)).length := by rw [List.length_map]
          rw [this, keys_stored]
          have := pone_len (l := kvs.map (·.1)) (x := nm)
          rw [List.length_map] at this; omega
        · rw [keys_stored, j3, due_succ hnm, if_pos (by rw [okE, q2']; rfl)]
          refine pone_new fun m => ?_
          have := any_eq.mpr m
          rw [keyA] at this
          rw [this] at q2'; cases q2'
      · clear j1 j2' j3'
        rintro h8 tk11 ⟨o, kvs, j1, j2, j3, S8⟩
        repeat (first | tbr_iter "zst")
        rw [hv0.length] at j3
        refine r_ret S8 kg ⟨gl', kvs, (S8.N _ (.tail _ (.head _))).1, (S8.N _ (.head _)).1, ?_, (S8.N _ (.tail _ (.tail _ (.head _)))).1, j1, j3⟩
        have := (S8.N _ (.head _)).2.2
        cases q : s.heap.get? gl' with
        | none => rfl
        | some o' => rw [kg gl' o' (out (fun e => ngl _ (.head _) e.symm) ngd) q] at this; cases this
end

section
/-- sorted lists of the same texts are one -/
theorem rising_le : ∀ (l : List Str) (p : Str), risingS p l = true → (p :: l).Pairwise (fun a b => a.cps.toList ≤ b.cps.toList)
  | [], p, _ => List.pairwise_singleton _ _
  | x :: r, p, h => by
    have h' : (!PySem.Spec.ltCps x.cps.toList p.cps.toList && risingS x r) = true := h
    rw [Bool.and_eq_true] at h'
    have ih := rising_le r x h'.2
    have px : p.cps.toList ≤ x.cps.toList := by
      have := h'.1
      rw [PyProof.Rows.ltCps_eq, Bool.not_eq_true', decide_eq_false_iff_not] at this
      exact List.not_lt.mp this
    refine List.pairwise_cons.mpr ⟨fun y hy => ?_, ih⟩
    rcases List.mem_cons.mp hy with rfl | hy
    · exact px
    · exact List.le_trans px ((List.pairwise_cons.mp ih).1 y hy)
theorem sorted_le (l : List Str) (h : sortedS l = true) : l.Pairwise (fun a b => a.cps.toList ≤ b.cps.toList) := by
  cases l with
  | nil => exact .nil
  | cons x r => exact rising_le r x h
theorem sorted_one {l m n : List Str} (hl : sortedS l = true) (hm : sortedS m = true) (pl : l.Perm n) (pm : m.Perm n) : l = m := by
  refine List.Perm.eq_of_pairwise (le := fun a b : Str => a.cps.toList ≤ b.cps.toList) (fun a b _ _ h1 h2 => ?_) (sorted_le l hl) (sorted_le m hm) (pl.trans pm.symm)
  have := List.le_antisymm h1 h2
  cases a; cases b
  simp only [Str.mk.injEq]
  exact Array.toList_inj.mp this
variable {w : World} {A : Around} {E : Value → Shared → Prop} {s : Shared} {h : Heap} {tk : Nat}
theorem strs_of : ∀ {vs : List Value} {ls : List Str}, vs.length = ls.length → (∀ (j : Nat) (v : Value), vs[j]? = some v → ∃ x, ls[j]? = some x ∧ ∃ t, v = .str x t) → StrsAre vs ls
  | [], [], _, _ => .nil
  | [], _ :: _, e, _ => nomatch e
  | _ :: _, [], e, _ => nomatch e
  | v :: vs, x :: ls, e, k => by
    obtain ⟨y, hy, t, rfl⟩ := k 0 v rfl
    cases hy
    exact .cons _ t (strs_of (Nat.succ.inj e) fun j u hu => k (j + 1) u hu)
theorem c_sortD {d : Addr} {kvs : List (Str × Value)} {Q : Value → Shared → Prop} (hh : A.handled = none) (hd : Has h (d, isTab w kvs)) (sm : (d == sysModules) = false) (hz : kvs.length ≤ 20)
    (q : ∀ b h' tk' ss, h.StaysIn h' → h.get? b = none → Has h' (b, isStrs ss) → ss.Perm (kvs.map (·.1)) → sortedS ss = true → Q (.ref b) (up s h' tk')) : wpAny (model PW w) A (call (.builtin "sorted") [.ref d]) Q E (up s h tk) := by
  obtain ⟨ep, hat⟩ := hd.tab.dictAt
  refine Calls.call_function_entry kind_sorted plain_sorted entry_sorted (args_sorted1 _) ?_
  unfold Builtin.«sorted»
  refine wpAny_bind (m := checkCount "sorted" 1 1 _) (wpAny_pure ?_)
  refine wpAny_bind (kdu_collect (s := up s h tk) (A := A.in1) (kdl_dict (knd := PySem.strKind PW w) (kvs := kvs) (ep := ep) sm) hh hat (by simp only [sizeLine]; omega) fun h1 tk1 acc hk hacc => ?_)
  have hl : acc.toList.length = kvs.length := by rw [Array.length_toList]; exact hacc.1
  refine wpAny_bind (wpAny_newList ?_ (by rw [hl]; simp only [sizeLine]; omega))
  have hS : StrsAre acc.toList (kvs.map (·.1)) := strs_of (by rw [hl, List.length_map]) fun j v e => by
    obtain ⟨k, x, hx, hk⟩ := hacc.2 j v (by rw [← Array.getElem?_toList]; exact e)
    exact ⟨k, by rw [List.getElem?_map, hx]; rfl, Value.isStrOf_shape hk⟩
  have hoL : (h1.push (seqObj "list" acc.toList.toArray 0)).get? h1.objs.size = some (seqObj "list" acc.toList.toArray 0) := Heap.get?_push_size _ rfl
  refine wpAny_bind (wpAny_holding (wpAny_call_entry slot_list_sort ⟨_, hoL, rfl⟩ entry_list_sort (list_sort_treeK strKind_oneLt hoL hS.keysOf (fun v₁ v₂ rest e => keyKind_strs (by rw [← e]; exact hS)) (by rw [hl]; omega) fun st' a1 a2 => ⟨_, rfl, ?_⟩) (args_list_sort _)))
  obtain ⟨ss', r1, r2, r3⟩ := sorted_out_str hS a1 a2
  obtain ⟨e, he⟩ := sortedHeap_at (vs := acc.toList) (out := (arrOf st').map (·.2)) hoL
  refine wpAny_pure ⟨_, rfl, ?_⟩
  refine q h1.objs.size _ tk1 ss' (fun b o eb => ?_) ?_ ⟨_, he, _, _, r1, rfl⟩ r2 r3
  · have e1 := hk b o eb
    have lt := Heap.lt_size e1
    show (sortedHeap (h1.push (seqObj "list" acc.toList.toArray 0)) h1.objs.size acc.toList ((arrOf st').map (·.2))).get? b = some o
    rw [sortedHeap_old (Nat.ne_of_lt lt) (by rw [size_push']; exact Nat.lt_succ_of_lt lt)]
    exact Heap.get?_push_of_some _ e1
  · cases z : h.get? h1.objs.size with
    | none => rfl
    | some o => exact absurd (Heap.lt_size (hk _ _ z)) (Nat.lt_irrefl _)
theorem c_sortL {a : Addr} {ls : List Str} {Q : Value → Shared → Prop} (ha : Has h (a, isStrs ls)) (hz : ls.length ≤ 20)
    (q : ∀ b h' tk' ss, h.StaysIn h' → h.get? b = none → Has h' (b, isStrs ss) → ss.Perm ls → sortedS ss = true → Q (.ref b) (up s h' tk')) : wpAny (model PW w) A (call (.builtin "sorted") [.ref a]) Q E (up s h tk) := by
  obtain ⟨vs, n, hv, e⟩ := ha.strs
  refine sorted_strs (s := up s h tk) ⟨_, e, rfl, _, rfl⟩ hv (by rw [hv.length]; omega) fun out ss' r1 r2 r3 => ?_
  obtain ⟨c, hc⟩ := sortedAll_at h vs out
  refine q _ _ tk ss' (fun b o eb => sortedAll_old eb) (Heap.get?_none_of_le (Nat.le_succ _)) ⟨_, hc, _, _, r1, rfl⟩ r2 r3
theorem eq_at {A : Around} {s : Shared} : ∀ {vs us : List Value} {ls : List Str}, StrsAre vs ls → StrsAre us ls → ∀ (j : Nat) (h1 : j < vs.toArray.size) (h2 : j < us.toArray.size), PySem.SeqAt.EqAt A s vs.toArray[j] us.toArray[j] true
  | _, _, _, hv, hu, j, h1, h2 => by
    obtain ⟨x, t, e1, e2⟩ := strs_at hv (i := j) (v := _) (List.getElem?_eq_getElem (by simpa using h1))
    obtain ⟨y, u, e3, e4⟩ := strs_at hu (i := j) (v := _) (List.getElem?_eq_getElem (by simpa using h2))
    rw [e1] at e3; cases e3
    rw [List.getElem_toArray, List.getElem_toArray, e2, e4]
    have := PySem.SeqAt.EqAt.str_str (A := A) (s := s) x t x u
    rwa [beq_self_eq_true] at this
theorem all_true (n : Nat) : (List.range n).all (fun _ => true) = true := by rw [List.all_eq_true]; exact fun _ _ => rfl
theorem c_ne_strs {n : Nat} {a b : Addr} {ls : List Str} {Q : Value → Shared → Prop} (R : Room n A) (ha : Has h (a, isStrs ls)) (hb : Has h (b, isStrs ls)) (q : Q (.bool false) (up s h tk)) : wpAny (model PW w) A (compareOp .NotEq (.ref a) (.ref b)) Q E (up s h tk) := by
  obtain ⟨vs, _, hv, e1⟩ := ha.strs
  obtain ⟨us, _, hu, e2⟩ := hb.strs
  have key := PySem.SeqAt.RcNeAt.lists (A := A) (s := up s h tk) (e := fun _ => true) (items := vs.toArray) (items2 := us.toArray) ⟨_, e1, rfl, _, rfl⟩ ⟨_, e2, rfl, _, rfl⟩ (by rw [List.size_toArray, List.size_toArray, hv.length, hu.length]) R.units (fun j h1 h2 => eq_at hv hu j h1 h2)
  rw [all_true] at key
  exact key _ _ _ _ q
theorem c_eq_strs {a b : Addr} {ls : List Str} (hU : A.units < cLine) (ha : Has h (a, isStrs ls)) (hb : Has h (b, isStrs ls)) (ne : a ≠ b) : PySem.SeqAt.EqAt A (up s h tk) (.ref a) (.ref b) true := by
  obtain ⟨vs, _, hv, e1⟩ := ha.strs
  obtain ⟨us, _, hu, e2⟩ := hb.strs
  have key := PySem.SeqAt.RcAt.lists (A := A) (s := up s h tk) (e := fun _ => true) (items := vs.toArray) (items2 := us.toArray) ⟨_, e1, rfl, _, rfl⟩ ⟨_, e2, rfl, _, rfl⟩ (by rw [List.size_toArray, List.size_toArray, hv.length, hu.length]) hU (fun j h1 h2 => eq_at hv hu j h1 h2)
  rw [all_true] at key
  exact .of_refs ne key
theorem d_ne_nil {n : Nat} {a b : Addr} {Q : Value → Shared → Prop} (R : Room n A) (ha : Has h (a, isTab w [])) (hb : Has h (b, isTab w [])) (la : (a == sysModules) = false) (lb : (b == sysModules) = false) (q : Q (.bool false) (up s h tk)) : wpAny (model PW w) A (compareOp .NotEq (.ref a) (.ref b)) Q E (up s h tk) :=
  keq_ne (s := up s h tk) (r := true) la lb ha.tab hb.tab R.units (fun _ => .nil) q
theorem d_method {d : Addr} {kvs : List (Str × Value)} {pl : Sem Bool} {Q : Value × List Value → Shared → Prop} (hd : Has h (d, isTab w kvs)) (q : Q (.builtin "dict.get", [.ref d]) (up s h tk)) : wpAny (model PW w) A (getMethod (.ref d) (Str.ofString "get") pl) Q E (up s h tk) :=
  getMethod_builtin (s := up s h tk) hd.tab.typeIs PySem.F.plainAttrs_dict PySem.F.slot_dict_get PySem.F.type_dict_get hd.tab.mapOf.noDict q
theorem d_get {d : Addr} {kvs : List (Str × Value)} {x : Str} {t : Nat} {v : Value} {Q : Value → Shared → Prop} (hd : Has h (d, isTab w kvs)) (sm : (d == sysModules) = false) (q : ∀ tk', Q ((valueAt kvs x).getD v) (up s h tk')) : wpAny (model PW w) A (call (.builtin "dict.get") [.ref d, .str x t, v]) Q E (up s h tk) :=
  call_meetsIn (s := up s h tk) PySem.F.slot_dict_get hd.tab.typeIs PySem.F.entry_dict_get (PySem.F.args_dict_get_3 _ _ _) (meets_dict_get_default (PySem.strKind PW w) d (strKind_is PW w x t) sm v) ⟨_, hd.tab.mapOf, q _⟩
/-- a reference or None -/
noncomputable def isRN (v : Value) : Prop := v = .none ∨ ∃ c, v = .ref c
theorem c_isnot {v : Value} {Q : Value → Shared → Prop} (hv : isRN v) (q : Q (.bool false) s) : wpAny (model PW w) A (compareOp .IsNot v v) Q E s := by
  rcases hv with rfl | ⟨c, rfl⟩
  · exact isnot_none_none q
  · exact isnot_ref_same q
theorem l_addS {a b : Addr} {ls ms : List Str} {Q : Value → Shared → Prop} (ha : Has h (a, isStrs ls)) (hb : Has h (b, isStrs ms)) (hz : ls.length + ms.length ≤ 1000)
    (q : ∀ c h' tk', Has h' (c, isStrs (ls ++ ms)) → h.StaysIn h' → h.get? c = none → Q (.ref c) (up s h' tk')) : wpAny (model PW w) A (binaryOp .Add (.ref a) (.ref b)) Q E (up s h tk) := by
  obtain ⟨vs, _, hv, e1⟩ := ha.strs
  obtain ⟨us, _, hu, e2⟩ := hb.strs
  refine P.add_list (s := up s h tk) e1 e2 (q _ _ tk ⟨_, Heap.get?_push_size _ rfl, vs ++ us, 0, hv.append' hu, ?_⟩ (fun _ _ e => Heap.get?_push_of_some _ e) noneAt) ?_
  · simp
  · have h1 := hv.length
    have h2 := hu.length
    rw [List.size_toArray, List.size_toArray]; simp only [sizeLine]; omega
theorem IterOf.str {x : Str} {t : Nat} (hh : A.handled = none) (ha : x.cps.all (· < 128) = true) : IterOf w A h (.str x t) [] x.cps.size (fun i v => ∃ c u, x.cps[i]? = some c ∧ v = .str ⟨#[c]⟩ u) := by
  intro s tk Q E k
  refine wpAny_pyIter_ascii (s := up s h tk) ha ?_
  refine k _ h.objs.size _ (fun b o e => Heap.get?_push_of_some _ e) noneAt (Walks.strAscii (prog := PW) (w := w) hh h.objs.size x t) ⟨_, Heap.get?_push_size _ rfl, rfl, rfl⟩ (fun b hb => ?_) (fun b hb => nomatch hb) fun i h' st => ⟨fun a ha o e q => ?_, ?_⟩
  · rw [Heap.size_push, List.mem_singleton.mp hb]; exact Nat.lt_succ_self _
  · obtain ⟨o', e', c, d⟩ := st
    rw [List.mem_singleton.mp ha, e'] at e; cases e
    rw [TupObj, c] at q; exact absurd (Value.type.inj q.1) (by decide)
  · obtain ⟨o', e', _⟩ := st; exact ⟨o', e'⟩
end

noncomputable def isCellO (v : Option Value) : OP := fun o => o.data = .cell v
noncomputable abbrev envR (L : Addr) : Env := envX (S "_law_opened_right") (fnS (stAt 37)) L 336 (.ref 335) [(S "told_global", L + 1 + 1), (S "told_local", L + 1)]
theorem envR_eq (L : Addr) : envOfC (S "_law_opened_right") (fnS (stAt 37)) L 336 (.ref 335) = envR L := by
  have e : cellsFrom (L + 1) (fnS (stAt 37)).names [] = [(S "told_global", L + 1 + 1), (S "told_local", L + 1)] := by kernel_rfl
  rw [envOfC, e]
section
variable {w : World} {A : Around} {s : Shared} {h₀ g h : Heap} {E : Value → Shared → Prop} {L : Addr} {l : LM} {led : Led} {tk : Nat}
theorem en336 {v0 v1 : Value} {Q : Value → Shared → Prop} {n : Nat} (R : Room (n + 1) A) (B : Bs w h₀) (k₀ : h₀.StaysIn s.heap)
    (h : ∀ g L h₁ tk, St w g L (VO427 (some v1) (some v0)) [(L + 1 + 1, isCellO none), (L + 1, isCellO none)] h₁ → h₀.StaysIn g → (∀ b o, s.heap.get? b = some o → g.get? b = some o) →
      s.heap.StaysIn h₁ → Room n (A.deeper (envR L)) → wpAny (model PW w) (A.deeper (envR L)) (execs (fnB (stAt 37)) (envR L))
        (retK Q) NoE (up s h₁ tk)) :
    wpAny (model PW w) A (call (.ref 336) [v0, v1]) Q E s := by
  refine r_enterC (binds := [(S "tree", v0), (S "lists", v1)]) (f336 _) (c336 _) R B k₀ [] (fun p hp => nomatch hp) (BindsTo.of_eq (by rfl)) (by kernel_rfl) (by decide +kernel) (by kernel_rfl) (by kernel_rfl) (by kernel_rfl) ?_
  intro g L h₁ tk cells Bg F C hc hw hlt hg kg kg' k₁ R'
  rw [envR_eq] at F C R' ⊢
  have e : cellsFrom (L + 1) (fnS (stAt 37)).names [] = [(S "told_global", L + 1 + 1), (S "told_local", L + 1)] := by kernel_rfl
  rw [e] at C
  obtain ⟨o, o', rfl, d, d'⟩ := C.two
  have e1 : bindC (envR L).kindOf [(S "tree", v0), (S "lists", v1)] (fun _ => none) (S "told_global") = none := by kernel_rfl
  have e2 : bindC (envR L).kindOf [(S "tree", v0), (S "lists", v1)] (fun _ => none) (S "told_local") = none := by kernel_rfl
  have e3 : (bindL (envR L).kindOf [(S "tree", v0), (S "lists", v1)] fun _ => none) = mp [(S "lists", some v1), (S "tree", some v0)] := by
    have m1 : (fun y => if y = S "tree" then some v0 else mp [] y) = mp [(S "tree", some v0)] := mp_cons _ _ _
    rw [← mp_cons, ← m1]
    kernel_rfl
  rw [e1] at d; rw [e2] at d'; rw [e3] at F
  refine h g L h₁ tk ⟨Bg, F, fun p hp => ?_⟩ hg (fun b o e => kg b o (fun q => nomatch q) e) k₁ R'
  rcases List.mem_cons.mp hp with rfl | hp
  · have := hc _ (.head _); exact ⟨⟨_, this.1, d⟩, this.2⟩
  · rw [List.mem_singleton.mp hp]; have := hc _ (.tail _ (.head _)); exact ⟨⟨_, this.1, d'⟩, this.2⟩
theorem r_storeC {M : Model} {a c : Addr} {pre post : Led} {v₀ : Option Value} {cn : Str} {cs : PySem.Scope} {ccd : Value} {cl : List (Str × Addr)} {x : Str} {v : Value} {Q : Unit → Shared → Prop} (SS : St w g L l (pre ++ (c, isCellO v₀) :: post) h) (ne : ∀ p ∈ pre ++ post, p.1 ≠ c)
    (q : ∀ h', St w g L l (pre ++ (c, isCell v) :: post) h' → (∀ b o, b ∉ [c] → h.get? b = some o → h'.get? b = some o) → Q () (up s h' tk)) (hc : cl.lookup x = some c)
    (hk : cs.kind = .function) (hx : (envX cn cs L a ccd cl).kindOf x = some .cell) : wpAny M A (storeName (envX cn cs L a ccd cl) x v) Q E (up s h tk) := by
  obtain ⟨o, e, d⟩ := (SS.N (c, isCellO v₀) (List.mem_append_right _ (.head _))).1
  refine wpAny_storeName_cell (s := up s h tk) hk hx hc ⟨o, e, d⟩ fun h' hv hs => ?_
  obtain ⟨o', e', d'⟩ := hv
  exact q h' (SS.upd ne (sameBut_keep hs) ⟨o', e', d'⟩) (sameBut_keep hs)
theorem x_tup {env : Env} {elts : List Expr} {tp pos : Pos} {k : Nat} {value : Expr} {rest : List Stmt} {Q : Flow → Shared → Prop} (hh : A.handled = none)
    (hx : wpAny (model PW w) A (eval value env) (fun v s₁ => ∃ (h : Heap) (tk : Nat) (t : Addr) (items : List Value), s₁ = up s h tk ∧ v = .ref t ∧ IsTup h t items.toArray ∧ (assignEach elts env).length = items.length ∧ ∀ h' tk', h.StaysIn h' →
      wpAny (model PW w) A (assignInOrder ((assignEach elts env).map (·.2)) items) (fun _ s₂ => wpAny (model PW w) A (execs rest env) Q E s₂) E (up s h' tk')) E s)
    (hst : (assignEach elts env).findIdx? (·.1) = none)
    (hs : swapsWithSole [.Tuple elts k tp] value pos.line env = pure false)
    (hw : swappedStores [.Tuple elts k tp] value env = pure none) :
    wpAny (model PW w) A (execs (.Assign [.Tuple elts k tp] value pos :: rest) env) Q E s := by
  refine wpAny_execs_cons (Assign_Tuple ?_ hs hw)
  refine (wpAny_mono hx (fun v s₁ hv => ?_) fun _ _ x => x)
  obtain ⟨h, tk, t, items, rfl, rfl, ht, hn, q⟩ := hv
  refine wpAny_assign_Tuple (s := up s h tk) hh ht (by rw [hn, List.size_toArray]) hst fun h' he => ?_
  exact q h' tk fun b o e => he b o (Nat.ne_of_lt (Heap.lt_size e)) e
theorem lo336_tree {M : Model} {v : Value} {pos : Pos} {Q : Value → Shared → Prop} (SS : St w g L l led h) (e : l.lookup (S "tree") = some (some v)) (q : Q v (up s h tk)) : wpAny M A (eval (.Name (Str.ofString "tree") pos) (envR L)) Q E (up s h tk) :=
  r_loc (s := up s h tk) SS e q (by kernel_rfl) (by kernel_rfl) (by kernel_rfl)
theorem lo336_lists {M : Model} {v : Value} {pos : Pos} {Q : Value → Shared → Prop} (SS : St w g L l led h) (e : l.lookup (S "lists") = some (some v)) (q : Q v (up s h tk)) : wpAny M A (eval (.Name (Str.ofString "lists") pos) (envR L)) Q E (up s h tk) :=
  r_loc (s := up s h tk) SS e q (by kernel_rfl) (by kernel_rfl) (by kernel_rfl)
theorem lo336_given {M : Model} {v : Value} {pos : Pos} {Q : Value → Shared → Prop} (SS : St w g L l led h) (e : l.lookup (S "given") = some (some v)) (q : Q v (up s h tk)) : wpAny M A (eval (.Name (Str.ofString "given") pos) (envR L)) Q E (up s h tk) :=
  r_loc (s := up s h tk) SS e q (by kernel_rfl) (by kernel_rfl) (by kernel_rfl)
theorem so336_given {M : Model} {v : Value} {Q : Unit → Shared → Prop} (SS : St w g L l led h) (q : ∀ h' tk', St w g L ((S "given", some v) :: l) led h' → (∀ b o, b ≠ L → h.get? b = some o → h'.get? b = some o) → Q () (up s h' tk')) : wpAny M A (storeName (envR L) (Str.ofString "given") v) Q E (up s h tk) :=
  r_store SS q (by kernel_rfl) (by kernel_rfl)
theorem lo336_outermost {M : Model} {v : Value} {pos : Pos} {Q : Value → Shared → Prop} (SS : St w g L l led h) (e : l.lookup (S "outermost") = some (some v)) (q : Q v (up s h tk)) : wpAny M A (eval (.Name (Str.ofString "outermost") pos) (envR L)) Q E (up s h tk) :=
  r_loc (s := up s h tk) SS e q (by kernel_rfl) (by kernel_rfl) (by kernel_rfl)
theorem so336_outermost {M : Model} {v : Value} {Q : Unit → Shared → Prop} (SS : St w g L l led h) (q : ∀ h' tk', St w g L ((S "outermost", some v) :: l) led h' → (∀ b o, b ≠ L → h.get? b = some o → h'.get? b = some o) → Q () (up s h' tk')) : wpAny M A (storeName (envR L) (Str.ofString "outermost") v) Q E (up s h tk) :=
  r_store SS q (by kernel_rfl) (by kernel_rfl)
theorem lo336_outer {M : Model} {v : Value} {pos : Pos} {Q : Value → Shared → Prop} (SS : St w g L l led h) (e : l.lookup (S "outer") = some (some v)) (q : Q v (up s h tk)) : wpAny M A (eval (.Name (Str.ofString "outer") pos) (envR L)) Q E (up s h tk) :=
  r_loc (s := up s h tk) SS e q (by kernel_rfl) (by kernel_rfl) (by kernel_rfl)
theorem so336_outer {M : Model} {v : Value} {Q : Unit → Shared → Prop} (SS : St w g L l led h) (q : ∀ h' tk', St w g L ((S "outer", some v) :: l) led h' → (∀ b o, b ≠ L → h.get? b = some o → h'.get? b = some o) → Q () (up s h' tk')) : wpAny M A (storeName (envR L) (Str.ofString "outer") v) Q E (up s h tk) :=
  r_store SS q (by kernel_rfl) (by kernel_rfl)
theorem lo336_here {M : Model} {v : Value} {pos : Pos} {Q : Value → Shared → Prop} (SS : St w g L l led h) (e : l.lookup (S "here") = some (some v)) (q : Q v (up s h tk)) : wpAny M A (eval (.Name (Str.ofString "here") pos) (envR L)) Q E (up s h tk) :=
  r_loc (s := up s h tk) SS e q (by kernel_rfl) (by kernel_rfl) (by kernel_rfl)
theorem so336_here {M : Model} {v : Value} {Q : Unit → Shared → Prop} (SS : St w g L l led h) (q : ∀ h' tk', St w g L ((S "here", some v) :: l) led h' → (∀ b o, b ≠ L → h.get? b = some o → h'.get? b = some o) → Q () (up s h' tk')) : wpAny M A (storeName (envR L) (Str.ofString "here") v) Q E (up s h tk) :=
  r_store SS q (by kernel_rfl) (by kernel_rfl)
theorem lo336_due {M : Model} {v : Value} {pos : Pos} {Q : Value → Shared → Prop} (SS : St w g L l led h) (e : l.lookup (S "due") = some (some v)) (q : Q v (up s h tk)) : wpAny M A (eval (.Name (Str.ofString "due") pos) (envR L)) Q E (up s h tk) :=
  r_loc (s := up s h tk) SS e q (by kernel_rfl) (by kernel_rfl) (by kernel_rfl)
theorem so336_due {M : Model} {v : Value} {Q : Unit → Shared → Prop} (SS : St w g L l led h) (q : ∀ h' tk', St w g L ((S "due", some v) :: l) led h' → (∀ b o, b ≠ L → h.get? b = some o → h'.get? b = some o) → Q () (up s h' tk')) : wpAny M A (storeName (envR L) (Str.ofString "due") v) Q E (up s h tk) :=
  r_store SS q (by kernel_rfl) (by kernel_rfl)
theorem lo336_name {M : Model} {v : Value} {pos : Pos} {Q : Value → Shared → Prop} (SS : St w g L l led h) (e : l.lookup (S "name") = some (some v)) (q : Q v (up s h tk)) : wpAny M A (eval (.Name (Str.ofString "name") pos) (envR L)) Q E (up s h tk) :=
  r_loc (s := up s h tk) SS e q (by kernel_rfl) (by kernel_rfl) (by kernel_rfl)
theorem so336_name {M : Model} {v : Value} {Q : Unit → Shared → Prop} (SS : St w g L l led h) (q : ∀ h' tk', St w g L ((S "name", some v) :: l) led h' → (∀ b o, b ≠ L → h.get? b = some o → h'.get? b = some o) → Q () (up s h' tk')) : wpAny M A (storeName (envR L) (Str.ofString "name") v) Q E (up s h tk) :=
  r_store SS q (by kernel_rfl) (by kernel_rfl)
theorem lo336_around {M : Model} {v : Value} {pos : Pos} {Q : Value → Shared → Prop} (SS : St w g L l led h) (e : l.lookup (S "around") = some (some v)) (q : Q v (up s h tk)) : wpAny M A (eval (.Name (Str.ofString "around") pos) (envR L)) Q E (up s h tk) :=
  r_loc (s := up s h tk) SS e q (by kernel_rfl) (by kernel_rfl) (by kernel_rfl)
theorem so336_around {M : Model} {v : Value} {Q : Unit → Shared → Prop} (SS : St w g L l led h) (q : ∀ h' tk', St w g L ((S "around", some v) :: l) led h' → (∀ b o, b ≠ L → h.get? b = some o → h'.get? b = some o) → Q () (up s h' tk')) : wpAny M A (storeName (envR L) (Str.ofString "around") v) Q E (up s h tk) :=
  r_store SS q (by kernel_rfl) (by kernel_rfl)
theorem lo336_inner {M : Model} {v : Value} {pos : Pos} {Q : Value → Shared → Prop} (SS : St w g L l led h) (e : l.lookup (S "inner") = some (some v)) (q : Q v (up s h tk)) : wpAny M A (eval (.Name (Str.ofString "inner") pos) (envR L)) Q E (up s h tk) :=
  r_loc (s := up s h tk) SS e q (by kernel_rfl) (by kernel_rfl) (by kernel_rfl)
theorem so336_inner {M : Model} {v : Value} {Q : Unit → Shared → Prop} (SS : St w g L l led h) (q : ∀ h' tk', St w g L ((S "inner", some v) :: l) led h' → (∀ b o, b ≠ L → h.get? b = some o → h'.get? b = some o) → Q () (up s h' tk')) : wpAny M A (storeName (envR L) (Str.ofString "inner") v) Q E (up s h tk) :=
  r_store SS q (by kernel_rfl) (by kernel_rfl)
theorem lo336_cell {M : Model} {v : Value} {pos : Pos} {Q : Value → Shared → Prop} (SS : St w g L l led h) (e : l.lookup (S "cell") = some (some v)) (q : Q v (up s h tk)) : wpAny M A (eval (.Name (Str.ofString "cell") pos) (envR L)) Q E (up s h tk) :=
  r_loc (s := up s h tk) SS e q (by kernel_rfl) (by kernel_rfl) (by kernel_rfl)
theorem so336_cell {M : Model} {v : Value} {Q : Unit → Shared → Prop} (SS : St w g L l led h) (q : ∀ h' tk', St w g L ((S "cell", some v) :: l) led h' → (∀ b o, b ≠ L → h.get? b = some o → h'.get? b = some o) → Q () (up s h' tk')) : wpAny M A (storeName (envR L) (Str.ofString "cell") v) Q E (up s h tk) :=
  r_store SS q (by kernel_rfl) (by kernel_rfl)
theorem lo336_Scope {M : Model} {pos : Pos} {Q : Value → Shared → Prop} (SS : St w g L l led h) (q : Q (.ref 125) (up s h tk)) : wpAny M A (eval (.Name (Str.ofString "Scope") pos) (envR L)) Q E (up s h tk) :=
  r_glob (s := up s h tk) SS (g_Scope _) q (by kernel_rfl) (by kernel_rfl) (by kernel_rfl)
theorem lo336_sorted {M : Model} {pos : Pos} {Q : Value → Shared → Prop} (SS : St w g L l led h) (q : Q (.builtin "sorted") (up s h tk)) : wpAny M A (eval (.Name (Str.ofString "sorted") pos) (envR L)) Q E (up s h tk) :=
  r_blt (s := up s h tk) SS (b_sorted _) (by kernel_rfl) (by decide) q (by kernel_rfl) (by kernel_rfl) (by kernel_rfl)
theorem lo336_told_local {M : Model} {v : Value} {pos : Pos} {Q : Value → Shared → Prop} (SS : St w g L l led h) (e : (L + 1, isCell v) ∈ led) (q : Q v (up s h tk)) : wpAny M A (eval (.Name (Str.ofString "told_local") pos) (envR L)) Q E (up s h tk) :=
  r_cell (s := up s h tk) SS e (by kernel_rfl) q (by kernel_rfl) (by kernel_rfl) (by kernel_rfl)
theorem lo336_told_global {M : Model} {v : Value} {pos : Pos} {Q : Value → Shared → Prop} (SS : St w g L l led h) (e : (L + 1 + 1, isCell v) ∈ led) (q : Q v (up s h tk)) : wpAny M A (eval (.Name (Str.ofString "told_global") pos) (envR L)) Q E (up s h tk) :=
  r_cell (s := up s h tk) SS e (by kernel_rfl) q (by kernel_rfl) (by kernel_rfl) (by kernel_rfl)
end

local macro_rules | `(tactic| tbr_iter "zl336") => `(tactic| first
  | with_reducible refine lo336_tree (by assumption) (by with_unfolding_all rfl) ?_
  | with_reducible refine lo336_lists (by assumption) (by with_unfolding_all rfl) ?_
  | with_reducible refine lo336_given (by assumption) (by with_unfolding_all rfl) ?_
  | with_reducible refine lo336_outermost (by assumption) (by with_unfolding_all rfl) ?_
  | with_reducible refine lo336_outer (by assumption) (by with_unfolding_all rfl) ?_
  | with_reducible refine lo336_here (by assumption) (by with_unfolding_all rfl) ?_
  | with_reducible refine lo336_due (by assumption) (by with_unfolding_all rfl) ?_
  | with_reducible refine lo336_name (by assumption) (by with_unfolding_all rfl) ?_
  | with_reducible refine lo336_around (by assumption) (by with_unfolding_all rfl) ?_
  | with_reducible refine lo336_inner (by assumption) (by with_unfolding_all rfl) ?_
  | with_reducible refine lo336_cell (by assumption) (by with_unfolding_all rfl) ?_
  | with_reducible refine lo336_Scope (by assumption) ?_
  | with_reducible refine lo336_sorted (by assumption) ?_)
theorem nd_ne {pre post : Led} {a : Addr} {P : OP} (nd : ((pre ++ (a, P) :: post).map (·.1)).Nodup) : ∀ p ∈ pre ++ post, p.1 ≠ a := by
  rw [List.map_append, List.map_cons] at nd
  obtain ⟨n1, n2, n3⟩ := List.nodup_append.mp nd
  intro p hp
  rcases List.mem_append.mp hp with hp | hp
  · exact n3 _ (List.mem_map_of_mem hp) _ (.head _)
  · intro e
    have m : p.1 ∈ post.map (·.1) := List.mem_map_of_mem hp
    exact (List.nodup_cons.mp n2).1 (by rw [e] at m; exact m)
section
variable {w : World} {A : Around} {s : Shared} {h₀ g h h' : Heap} {E : Value → Shared → Prop} {L : Addr} {l : LM} {led : Led} {tk : Nat}
theorem St.ndnew {nw : Led} (SS : St w g L l led h) (nd : (led.map (·.1)).Nodup) (H : ∀ p ∈ nw, h.get? p.1 = none) (nn : (nw.map (·.1)).Nodup) : ((nw ++ led).map (·.1)).Nodup := by
  rw [List.map_append]
  refine List.nodup_append.mpr ⟨nn, nd, fun a ha b hb e => ?_⟩
  obtain ⟨p, hp, rfl⟩ := List.mem_map.mp ha
  obtain ⟨q, hq, rfl⟩ := List.mem_map.mp hb
  obtain ⟨⟨o, eo, _⟩, _⟩ := SS.N q hq
  have := H p hp
  rw [e, show h.get? q.1 = some o from eo] at this; cases this
theorem St.offL (SS : St w g L l led h) {a : Addr} (e : h.get? a = none) : a ≠ L ∧ g.get? a = none := ⟨fun q => SS.low (q ▸ e), by
  cases z : g.get? a with
  | none => rfl
  | some o => have := SS.F.keep _ _ z; rw [e] at this; cases this⟩
theorem St.addAll {nw : Led} (S' : St w g L l led h') (H : ∀ p ∈ nw, Has h' p ∧ p.1 ≠ L ∧ g.get? p.1 = none) : St w g L l (nw ++ led) h' :=
  ⟨S'.B, S'.F, fun p hp => (List.mem_append.mp hp).elim (fun q => H p q) fun q => S'.N p q⟩
theorem St.grow {nw : Led} (SS : St w g L l led h) (nd : (led.map (·.1)).Nodup) (k : h.StaysIn h') (H : ∀ p ∈ nw, Has h' p ∧ h.get? p.1 = none) (nn : (nw.map (·.1)).Nodup) : St w g L l (nw ++ led) h' ∧ ((nw ++ led).map (·.1)).Nodup :=
  ⟨(SS.keeps k).addAll fun p hp => ⟨(H p hp).1, SS.offL (H p hp).2⟩, SS.ndnew nd (fun p hp => (H p hp).2) nn⟩
theorem St.wr {pre post nw : Led} {a : Addr} {P P' : OP} (SS : St w g L l (pre ++ (a, P) :: post) h) (nd : ((pre ++ (a, P) :: post).map (·.1)).Nodup) (k : ∀ b o, b ∉ [a] → h.get? b = some o → h'.get? b = some o) (x : Has h' (a, P')) (H : ∀ p ∈ nw, Has h' p ∧ h.get? p.1 = none) (nn : (nw.map (·.1)).Nodup) :
    St w g L l (nw ++ (pre ++ (a, P') :: post)) h' ∧ ((nw ++ (pre ++ (a, P') :: post)).map (·.1)).Nodup := by
  refine ⟨(SS.upd (nd_ne nd) k x).addAll fun p hp => ⟨(H p hp).1, SS.offL (H p hp).2⟩, ?_⟩
  have := SS.ndnew nd (fun p hp => (H p hp).2) nn
  simpa using this
theorem St.upd2 {a b : Addr} {P Q P' Q' : OP} {rest : Led} (SS : St w g L l ((a, P) :: (b, Q) :: rest) h) (nd : (((a, P) :: (b, Q) :: rest).map (·.1)).Nodup) (k : ∀ x o, x ∉ [a, b] → h.get? x = some o → h'.get? x = some o) (ha : Has h' (a, P')) (hb : Has h' (b, Q')) :
    St w g L l ((a, P') :: (b, Q') :: rest) h' := by
  have n1 := List.nodup_cons.mp nd
  have n2 := List.nodup_cons.mp n1.2
  refine SS.but k (fun x hx => ?_) fun p hp => ?_
  · rcases List.mem_cons.mp hx with rfl | hx
    · exact (SS.N _ (.head _)).2
    · rw [List.mem_singleton.mp hx]; exact (SS.N _ (.tail _ (.head _))).2
  · rcases List.mem_cons.mp hp with rfl | hp
    · exact .inr ⟨.head _, ha⟩
    · rcases List.mem_cons.mp hp with rfl | hp
      · exact .inr ⟨.tail _ (.head _), hb⟩
      · refine .inl ⟨.tail _ (.tail _ hp), fun q => ?_⟩
        have m : p.1 ∈ rest.map (·.1) := List.mem_map_of_mem hp
        rcases List.mem_cons.mp q with e | q
        · rw [e] at m; exact n1.1 (List.mem_cons_of_mem _ m)
        · rw [List.mem_singleton.mp q] at m; exact n2.1 m
theorem Has.hide {W : List Addr} {p : Addr × OP} (x : Has h p) (n : p.1 ∉ W) : Has (hideAll h W) p := let ⟨o, e, q⟩ := x; ⟨o, hideAll_get _ e n, q⟩
/-- a scope's own objects -/
noncomputable def SL (w : World) (x d c gl : Addr) (p : Value) (kvs : List (Str × Value)) (ls : List Str) : Led := [(x, isInst 125 d), (d, isFields (scF p c gl)), (c, isTab w kvs), (gl, isStrs ls)]
theorem SL.nd {x d c gl : Addr} {p : Value} {kvs : List (Str × Value)} {ls : List Str} (a1 : Has h (x, isInst 125 d)) (a2 : Has h (d, isFields (scF p c gl))) (a3 : Has h (c, isTab w kvs)) (a4 : Has h (gl, isStrs ls)) (ne : d ≠ c) : ((SL w x d c gl p kvs ls).map (·.1)).Nodup := by
  have e1 := ne_has a1 a2 fun o p q => c_rt (ii_cls _ p) (if_cls _ q)
  have e2 := ne_has a1 a3 fun o p q => c_rt (ii_cls _ p) (it_cls _ q)
  have e3 := ne_has a1 a4 fun o p q => c_rt (ii_cls _ p) (is_cls _ q)
  have e4 := ne_has a4 a2 fun o p q => c_ld (is_cls _ p) (if_cls _ q)
  have e5 := ne_has a4 a3 fun o p q => c_ld (is_cls _ p) (it_cls _ q)
  simp only [SL, List.map_cons, List.map_nil, List.nodup_cons, List.mem_cons, List.not_mem_nil, or_false, not_or, not_false_eq_true, List.nodup_nil, and_true]
  exact ⟨⟨e1, e2, e3⟩, ⟨ne, fun e => e4 e.symm⟩, fun e => e5 e.symm⟩
theorem SL.all {x d c gl : Addr} {p : Value} {kvs : List (Str × Value)} {ls : List Str} {R : Addr × OP → Prop} (a1 : R (x, isInst 125 d)) (a2 : R (d, isFields (scF p c gl))) (a3 : R (c, isTab w kvs)) (a4 : R (gl, isStrs ls)) : ∀ q ∈ SL w x d c gl p kvs ls, R q := by
  intro q hq
  simp only [SL, List.mem_cons, List.not_mem_nil, or_false] at hq
  rcases hq with rfl | rfl | rfl | rfl
  · exact a1
  · exact a2
  · exact a3
  · exact a4
/-- a new scope, put into the ledger -/
theorem n_scope {n : Nat} {p : Value} {c : Chain} {Q : Value → Shared → Prop} (R : Room n A) (hr : 2 ≤ n) (SS : St w g L l led h) (nd : (led.map (·.1)).Nodup) (hc : ScAt w h p c)
    (q : ∀ x d dc gl h' tk', h.StaysIn h' → St w g L l (SL w x d dc gl p [] [] ++ led) h' → ((SL w x d dc gl p [] [] ++ led).map (·.1)).Nodup → (dc == sysModules) = false → (∀ b ∈ (SL w x d dc gl p [] []).map (·.1), h.get? b = none) → Q (.ref x) (up s h' tk')) : (KK w.params).In (up s h tk).heap ∧ wpAny (model PW w) A (call (.ref 125) [p]) Q E (up s h tk) := by
  refine ⟨SS.kin, u_scope (R.le hr) SS.B SS.F.keep hc ?_⟩
  intro x d dc gl h' tk' k a1 a2 a3 a4 n1 n2 n3 n4 sm ne
  obtain ⟨S', nd'⟩ := SS.grow (nw := SL w x d dc gl p [] []) nd k (SL.all ⟨a1, n1⟩ ⟨a2, n2⟩ ⟨a3, n3⟩ ⟨a4, n4⟩) (SL.nd a1 a2 a3 a4 ne)
  refine q x d dc gl h' tk' k S' nd' sm fun b hb => ?_
  obtain ⟨p, hp, rfl⟩ := List.mem_map.mp hb
  exact SL.all (R := fun q => h.get? q.1 = none) n1 n2 n3 n4 p hp
end

local macro_rules | `(tactic| tbr_iter "zin") => `(tactic| (first | exact List.Mem.head _ | (apply List.Mem.tail; tbr_iter "zin")))
theorem filt_succ {p : Str → Bool} {l : List Str} {i : Nat} {n : Str} (h : l[i]? = some n) : (l.take (i + 1)).filter p = (l.take i).filter p ++ (if p n = true then [n] else []) := by
  rw [List.take_add_one, h, List.filter_append]
  congr 1
  show List.filter p [n] = _
  rw [List.filter_cons, List.filter_nil]
theorem mp_two {x y : Str} {a b c d : Option Value} {l : LM} : mp ((x, a) :: (y, b) :: (x, c) :: (y, d) :: l) = mp ((x, a) :: (y, b) :: l) := by
  funext z
  unfold mp
  simp only [List.lookup_cons]
  cases z == x <;> cases z == y <;> rfl
theorem kn2 {nm : Str} {cp cq : Value} : known nm [([(S "p", cp), (S "q", cq)], []), ([], [])] = [S "p", S "q"].any (· == nm) := by
  unfold known
  simp only [List.any_cons, List.any_nil, Bool.or_false, valueAt_keys, List.map_cons, List.map_nil]
theorem mp_skip {x : Str} {l : LM} (h : l.lookup x = none) : mp ((x, none) :: l) = mp l := by
  funext y
  unfold mp
  rw [List.lookup_cons]
  by_cases q : y = x
  · subst q; rw [h, beq_self_eq_true]; rfl
  · rw [beq_eq_false_iff_ne.mpr q]
theorem valueAt_mem {kvs : List (Str × Value)} {nm : Str} {v : Value} (h : valueAt kvs nm = some v) : ∃ q ∈ kvs, q.2 = v := by
  unfold valueAt at h
  cases e : kvs.find? (fun kv => decide (kv.1 = nm)) with
  | none => rw [e] at h; cases h
  | some q => rw [e] at h; exact ⟨q, List.mem_of_find?_eq_some e, Option.some.inj h⟩
noncomputable def arV (nm : Str) (gs : List Str) (kv2 : List (Str × Value)) : Value := if (gs.any (· == nm)) = true then .none else (valueAt kv2 nm).getD .none
theorem find_ar {nm : Str} {kvs kv2 : List (Str × Value)} {gs : List Str} : findV nm [(kvs, gs), (kv2, []), ([], [])] = (valueAt kvs nm).getD (arV nm gs kv2) := by
  show (match valueAt kvs nm with | some v => v | none => if (gs.any (· == nm)) = true then .none else findV nm [(kv2, []), ([], [])]) = _
  cases valueAt kvs nm with
  | some v => rfl
  | none =>
    show (if (gs.any (· == nm)) = true then Value.none else findV nm [(kv2, []), ([], [])]) = arV nm gs kv2
    unfold arV
    by_cases q : (gs.any (· == nm)) = true
    · rw [if_pos q, if_pos q]
    · rw [if_neg q, if_neg q]
      show (match valueAt kv2 nm with | some v => v | none => _) = _
      cases valueAt kv2 nm <;> rfl
theorem ar_isRN {nm : Str} {kvs : List (Str × Value)} {cp : Addr} {cq : Value} {gs : List Str} (hb : Bnd kvs) (hq : isRN cq) : isRN ((valueAt kvs nm).getD (arV nm gs [(S "p", .ref cp), (S "q", cq)])) := by
  cases e : valueAt kvs nm with
  | some v =>
    obtain ⟨q, hq, rfl⟩ := valueAt_mem e
    exact .inr (hb q hq)
  | none =>
    show isRN (arV nm gs _)
    unfold arV
    split
    · exact .inl rfl
    · cases e2 : valueAt [(S "p", Value.ref cp), (S "q", cq)] nm with
      | none => exact .inl rfl
      | some v =>
        obtain ⟨q, hm, rfl⟩ := valueAt_mem e2
        rcases List.mem_cons.mp hm with rfl | hm
        · exact .inr ⟨_, rfl⟩
        · rw [List.mem_singleton.mp hm]; exact hq
noncomputable def isBT : OP := fun o => ∃ t, o = tupNew [.str (S "bool") t, .bool true]
noncomputable def LRa (w : World) (x2 x3 d3 c3 g4 cp dp : Addr) (kvs : List (Str × Value)) (gs : List Str) : Led := [(d3, isFields (scF (.ref x2) c3 g4)), (c3, isTab w kvs), (g4, isStrs gs), (x3, isInst 125 d3), (cp, isInst 69 dp)]
noncomputable def LRb (w : World) (L x1 d1 c1 g1 x2 d2 c2 g2 a1 a2 : Addr) (kv2 : List (Str × Value)) : Led := SL w x2 d2 c2 g2 (.ref x1) kv2 [] ++ (SL w x1 d1 c1 g1 .none [] [] ++ [(L + 1 + 1, isCell (.ref a2)), (L + 1, isCell (.ref a1))])
section
variable {w : World} {A : Around} {s : Shared} {g : Heap}
theorem right_rest {L x1 d1 c1 g1 x2 d2 c2 g2 x3 d3 c3 g4 cp dp a0 a1 a2 : Addr} {kvs : List (Str × Value)} {tv cq v1 v0 : Value} {ls : Ls} {h : Heap} {tk : Nat} (R' : Room 13 (A.deeper (envR L))) (kg : s.heap.StaysIn g)
    (S0 : St w g L (VO728 (some (.ref x3)) (some (.ref x2)) (some (.ref x1)) (some (.ref a0)) (some v1) (some v0)) (LRa w x2 x3 d3 c3 g4 cp dp kvs ls.2.2 ++ (dp, isFields [(S "value", tv)]) :: LRb w L x1 d1 c1 g1 x2 d2 c2 g2 a1 a2 [(S "p", .ref cp), (S "q", cq)]) h)
    (ne : ∀ p ∈ LRa w x2 x3 d3 c3 g4 cp dp kvs ls.2.2 ++ LRb w L x1 d1 c1 g1 x2 d2 c2 g2 a1 a2 [(S "p", .ref cp), (S "q", cq)], p.1 ≠ dp) (hq : isRN cq)
    (gL : ∀ p ∈ L3 a0 a1 a2 ls, Has g p) (G : Gds ls) (hb : Bnd kvs) (hk : kvs.map (·.1) = due (fun n => known n [([(S "p", .ref cp), (S "q", cq)], []), ([], [])]) ls ls.1.length) (sm1 : (c1 == sysModules) = false) (sm2 : (c2 == sysModules) = false) (sm3 : (c3 == sysModules) = false) :
    wpAny (model PW w) (A.deeper (envR L)) (execs ((fnB (stAt 37)).drop 7) (envR L)) (retK (Ret s [] fun r _ => r = .bool true)) NoE (up s h tk) := by
  have kl : kvs.length ≤ 10 := by
    have e : kvs.length = (kvs.map (·.1)).length := by rw [List.length_map]
    rw [e, hk]; unfold due
    rw [List.length_append]
    have := G.2.1.len
    have := List.length_filter_le (okN (fun n => known n [([(S "p", Value.ref cp), (S "q", cq)], []), ([], [])]) ls) (ls.1.take ls.1.length)
    rw [List.length_take] at this
    have := G.1.len
    omega
  have cases_all : ∀ {l : LM} {h : Heap} {tv : Value} {led : Led}, St w g L l (led ++ (LRa w x2 x3 d3 c3 g4 cp dp kvs ls.2.2 ++ (dp, isFields [(S "value", tv)]) :: LRb w L x1 d1 c1 g1 x2 d2 c2 g2 a1 a2 [(S "p", .ref cp), (S "q", cq)])) h → Has h (L + 1 + 1, isCell (.ref a2)) ∧ Has h (L + 1, isCell (.ref a1)) := fun {l h tv led} SJ => by
    have H : ∀ q ∈ LRa w x2 x3 d3 c3 g4 cp dp kvs ls.2.2 ++ (dp, isFields [(S "value", tv)]) :: LRb w L x1 d1 c1 g1 x2 d2 c2 g2 a1 a2 [(S "p", .ref cp), (S "q", cq)], Has h q := fun q hq => (SJ.N q (List.mem_append_right _ hq)).1
    exact ⟨H _ (by tbr_iter "zin"), H _ (by tbr_iter "zin")⟩
  have l0 := gL _ (.head _)
  have l1 := gL _ (.tail _ (.head _))
  have l2 := gL _ (.tail _ (.tail _ (.head _)))
  refine x_asg ?_ (by rfl)
  repeat (first | tbr_iter "zst")
  refine lo336_told_local (v := .ref a1) S0 (by tbr_iter "zin") ?_
  refine r_listcomp (cl := [(S "told_local", L + 1), (S "told_global", L + 1 + 1)]) (x := S "name") (by with_unfolding_all rfl) (by decide +kernel) (by with_unfolding_all rfl) (by decide +kernel) (by with_unfolding_all rfl) ?_ (by intro x; with_unfolding_all rfl)
  repeat (first | tbr_iter "zst" | tbr_iter "zl336")
  obtain ⟨vs0, n0, hv0, ev0⟩ := (l0.stays S0.F.keep).strs
  refine ⟨h, _, _, _, _, rfl, IterOf.list (vs := vs0) R'.1 ⟨_, ev0, rfl, _, rfl⟩, by rw [hv0.length]; have := G.1.len; simp only [sizeLine]; omega, fun I D C hI hD hC hCD => ?_⟩
  have hX : ∀ {X : List Addr}, (∀ a ∈ X, a ∈ [C, D, I]) → ∀ i ∈ X, h.get? i = none := fun k i hi => by
    rcases List.mem_cons.mp (k i hi) with rfl | q
    · exact hC
    · rcases List.mem_cons.mp q with rfl | q
      · exact hD
      · rw [List.mem_singleton.mp q]; exact hI
  refine ⟨fun i ys h => St w g L (VO728 (some (.ref x3)) (some (.ref x2)) (some (.ref x1)) (some (.ref a0)) (some v1) (some v0)) (LRa w x2 x3 d3 c3 g4 cp dp kvs ls.2.2 ++ (dp, isFields [(S "value", tv)]) :: LRb w L x1 d1 c1 g1 x2 d2 c2 g2 a1 a2 [(S "p", .ref cp), (S "q", cq)]) h ∧
    StrsAre ys ((ls.1.take i).filter (okN (fun n => known n [([(S "p", .ref cp), (S "q", cq)], []), ([], [])]) ls)), fun h4 k4 => ⟨S0.keeps k4, .nil⟩, ?_, ?_, ?_⟩
  · rintro i ys h h' X ⟨J, j2⟩ hx hT hk
    exact ⟨S0.offm (X := X) (hX hx) J rfl hk, j2⟩
  · rintro i v ys h tk mm hi hv ⟨J, j2⟩ hns hm hy ⟨oI, eI⟩ ⟨oD, eD⟩
    obtain ⟨nm, tn, hnm, rfl⟩ := strs_at hv0 hv
    refine wpAny_tests_one ?_
    repeat (first | tbr_iter "zst")
    refine wpAny_Name (wpAny_loadName_local (by with_unfolding_all rfl) (by with_unfolding_all rfl) hns hm ?_) (by decide)
    repeat (first | tbr_iter "zst")
    refine wpAny_Name (wpAny_loadName_cell (c := L + 1 + 1) (v := .ref a2) (by with_unfolding_all rfl) (by kernel_rfl) (by kernel_rfl) (cases_all (led := []) J).1 ?_) (by kernel_rfl)
    repeat (first | tbr_iter "zst")
    refine wpAny_Name (wpAny_loadName_cell (c := L + 1) (v := .ref a1) (by with_unfolding_all rfl) (by kernel_rfl) (by kernel_rfl) (cases_all (led := []) J).2 ?_) (by kernel_rfl)
    repeat (first | tbr_iter "zst")
    refine l_addS (l2.stays J.F.keep) (l1.stays J.F.keep) (by have := G.2.1.len; have := G.2.2.len; omega) ?_
    intro c h5 tk5 xc kc _
    refine c_notin xc ?_
    repeat (first | tbr_iter "zst")
    have J5 := J.keeps kc
    have kn := kn2 (nm := nm) (cp := .ref cp) (cq := cq)
    have okE : okN (fun n => known n [([(S "p", .ref cp), (S "q", cq)], []), ([], [])]) ls nm = (!((ls.2.2 ++ ls.2.1).any (· == nm)) && !([S "p", S "q"].any (· == nm))) := by
      show (!(ls.2.2.any (· == nm)) && (!(ls.2.1.any (· == nm)) && !(known nm [([(S "p", .ref cp), (S "q", cq)], []), ([], [])]))) = _
      rw [kn, List.any_append, Bool.not_or, Bool.and_assoc]
    have fin : ∀ {h6 : Heap} {tk6 : Nat}, h5.StaysIn h6 → okN (fun n => known n [([(S "p", .ref cp), (S "q", cq)], []), ([], [])]) ls nm = false → Nx s [C, D, I, a0] h (fun ys h => St w g L (VO728 (some (.ref x3)) (some (.ref x2)) (some (.ref x1)) (some (.ref a0)) (some v1) (some v0)) (LRa w x2 x3 d3 c3 g4 cp dp kvs ls.2.2 ++ (dp, isFields [(S "value", tv)]) :: LRb w L x1 d1 c1 g1 x2 d2 c2 g2 a1 a2 [(S "p", .ref cp), (S "q", cq)]) h ∧
      StrsAre ys ((ls.1.take (i + 1)).filter (okN (fun n => known n [([(S "p", .ref cp), (S "q", cq)], []), ([], [])]) ls))) ys (up s h6 tk6) := fun {h6 tk6} k6 ok => ⟨h6, tk6, rfl, fun b _ o e => k6 b o (kc b o e), J5.keeps k6, by rw [filt_succ hnm, ok]; simpa using j2⟩
    by_cases q1 : ((ls.2.2 ++ ls.2.1).any (· == nm)) = true
    · refine ite_neg (by rw [q1]; decide) ?_
      repeat (first | tbr_iter "zst")
      refine ite_neg (fun q => nomatch q) ?_
      exact fin (fun _ _ e => e) (by rw [okE, q1]; rfl)
    have q1' := Bool.eq_false_iff.mpr q1
    refine ite_pos (by rw [q1']; decide) ?_
    repeat (first | tbr_iter "zst")
    refine wpAny_Name (wpAny_loadName_local (by with_unfolding_all rfl) (by with_unfolding_all rfl) (hns.keeps kc) hm ?_) (by decide)
    repeat (first | tbr_iter "zst")
    refine u_tup J5 (by simp) ?_
    intro a6 h6 tk6 ht6 k6 J6
    refine c_notint ht6 (by repeat (first | exact StrsAre.nil | apply StrsAre.cons)) ?_
    repeat (first | tbr_iter "zst")
    by_cases q2 : ([S "p", S "q"].any (· == nm)) = true
    · refine ite_neg (by show ¬ (!([S "p", S "q"].any (· == nm))) = true; rw [q2]; decide) ?_
      exact fin k6 (by rw [okE, q2, Bool.not_true, Bool.and_false])
    have q2' := Bool.eq_false_iff.mpr q2
    refine ite_pos (by show (!([S "p", S "q"].any (· == nm))) = true; rw [q2']; rfl) ?_
    repeat (first | tbr_iter "zst")
    refine wpAny_Name (wpAny_loadName_local (by with_unfolding_all rfl) (by with_unfolding_all rfl) ((hns.keeps kc).keeps k6) hm ?_) (by decide)
    refine ⟨h6, tk6, rfl, fun b _ o e => k6 b o (kc b o e), J6, ?_⟩
    rw [filt_succ hnm, if_pos (by rw [okE, q1', q2']; rfl)]
    exact j2.append' (.cons _ _ .nil)
  · rintro h2 tk2 ys ⟨S2, j2⟩ ⟨oD, eD, nD, rfl⟩
    rw [hv0.length, List.take_length] at j2
    refine l_addS (l1.stays S2.F.keep) (b := D) ⟨_, eD, ys, nD, j2, rfl⟩ (by have := List.length_filter_le (okN (fun n => known n [([(S "p", Value.ref cp), (S "q", cq)], []), ([], [])]) ls) ls.1; have := G.1.len; have := G.2.1.len; omega) ?_
    intro du h3 tk3 xdu k3 ndu
    have kdu : ls.2.1 ++ ls.1.filter (okN (fun n => known n [([(S "p", .ref cp), (S "q", cq)], []), ([], [])]) ls) = kvs.map (·.1) := by rw [hk]; unfold due; rw [List.take_length]
    rw [kdu] at xdu
    have S3 := (S2.keeps k3).add xdu (S2.offL ndu).1 (S2.offL ndu).2
    have nedu : du ≠ dp := fun q => by
      obtain ⟨o, e, _⟩ := (S2.N (dp, isFields [(S "value", tv)]) (by tbr_iter "zin")).1
      rw [q, show h2.get? dp = some o from e] at ndu; cases ndu
    have ch3 : ∀ {h : Heap} {l : LM}, St w g L l ((du, isStrs (kvs.map (·.1))) :: (LRa w x2 x3 d3 c3 g4 cp dp kvs ls.2.2 ++ (dp, isFields [(S "value", tv)]) :: LRb w L x1 d1 c1 g1 x2 d2 c2 g2 a1 a2 [(S "p", .ref cp), (S "q", cq)])) h → ScAt w h (.ref x3) [(kvs, ls.2.2), ([(S "p", .ref cp), (S "q", cq)], []), ([], [])] := fun {h l} SJ => by
      have H : ∀ q ∈ ((du, isStrs (kvs.map (·.1))) :: (LRa w x2 x3 d3 c3 g4 cp dp kvs ls.2.2 ++ (dp, isFields [(S "value", tv)]) :: LRb w L x1 d1 c1 g1 x2 d2 c2 g2 a1 a2 [(S "p", .ref cp), (S "q", cq)])), Has h q := fun q hq => (SJ.N q hq).1
      exact .cons (H (x3, isInst 125 d3) (by tbr_iter "zin")) (H (d3, isFields (scF (.ref x2) c3 g4)) (by tbr_iter "zin")) (H (c3, isTab w kvs) (by tbr_iter "zin")) (H (g4, isStrs ls.2.2) (by tbr_iter "zin")) sm3
        (.cons (H (x2, isInst 125 d2) (by tbr_iter "zin")) (H (d2, isFields (scF (.ref x1) c2 g2)) (by tbr_iter "zin")) (H (c2, isTab w [(S "p", .ref cp), (S "q", cq)]) (by tbr_iter "zin")) (H (g2, isStrs []) (by tbr_iter "zin")) sm2
          (.cons (H (x1, isInst 125 d1) (by tbr_iter "zin")) (H (d1, isFields (scF .none c1 g1)) (by tbr_iter "zin")) (H (c1, isTab w []) (by tbr_iter "zin")) (H (g1, isStrs []) (by tbr_iter "zin")) sm1 .nil))
    refine so336_due S3 ?_
    intro h4 tk4 S4 k4
    refine x_if ?_
    repeat (first | tbr_iter "zst" | tbr_iter "zl336" | tbr_iter "zcb")
    refine u_get S4 (S4.N (x3, isInst 125 d3) (by tbr_iter "zin")).1 (S4.N (d3, isFields (scF (.ref x2) c3 g4)) (by tbr_iter "zin")).1 (ga125_cells _) (hd125 _) (fa125_cells _) rfl rfl rfl ?_
    intro tk5
    repeat (first | tbr_iter "zst" | tbr_iter "zl336" | tbr_iter "zcb")
    refine c_sortD R'.1 (S4.N (c3, isTab w kvs) (by tbr_iter "zin")).1 sm3 (Nat.le_trans kl (by decide)) ?_
    intro b5 h5 tk6 ss5 k5 _ xb5 p5 s5
    have S5 := S4.keeps k5
    repeat (first | tbr_iter "zst" | tbr_iter "zl336" | tbr_iter "zcb")
    refine c_sortL (S5.N (du, isStrs (kvs.map (·.1))) (by tbr_iter "zin")).1 (by rw [List.length_map]; omega) ?_
    intro b6 h6 tk7 ss6 k6 _ xb6 p6 s6
    have S6 := S5.keeps k6
    have es := sorted_one s6 s5 p6 p5
    subst es
    refine c_ne_strs R' (xb5.stays k6) xb6 ?_
    repeat (first | tbr_iter "zst" | tbr_iter "zl336" | tbr_iter "zcb")
    refine ite_neg (fun q => nomatch q) ?_
    repeat (first | tbr_iter "zst" | tbr_iter "zl336" | tbr_iter "zcb")
    refine u_get S6 (S6.N (x2, isInst 125 d2) (by tbr_iter "zin")).1 (S6.N (d2, isFields (scF (.ref x1) c2 g2)) (by tbr_iter "zin")).1 (ga125_cells _) (hd125 _) (fa125_cells _) rfl rfl rfl ?_
    intro tk8
    repeat (first | tbr_iter "zst" | tbr_iter "zl336" | tbr_iter "zcb")
    refine c_sortD R'.1 (S6.N (c2, isTab w [(S "p", .ref cp), (S "q", cq)]) (by tbr_iter "zin")).1 sm2 (by simp) ?_
    intro b7 h7 tk9 ss7 k7 _ xb7 p7 s7
    have S7 := S6.keeps k7
    repeat (first | tbr_iter "zst" | tbr_iter "zl336" | tbr_iter "zcb")
    refine r_newList ?_ (by exact Nat.le_of_ble_eq_true rfl)
    intro h8 b8 k8 _ e8
    have S8 := S7.keeps k8
    have es2 : ss7 = [S "p", S "q"] := sorted_one s7 (by decide) p7 (List.Perm.refl _)
    subst es2
    refine c_ne_strs R' (xb7.stays k8) (b := b8) ⟨_, e8, _, 0, by repeat (first | exact StrsAre.nil | apply StrsAre.cons), rfl⟩ ?_
    repeat (first | tbr_iter "zst" | tbr_iter "zl336" | tbr_iter "zcb")
    refine ite_neg (fun q => nomatch q) ?_
    repeat (first | tbr_iter "zst" | tbr_iter "zl336" | tbr_iter "zcb")
    refine u_get S8 (S8.N (x1, isInst 125 d1) (by tbr_iter "zin")).1 (S8.N (d1, isFields (scF .none c1 g1)) (by tbr_iter "zin")).1 (ga125_cells _) (hd125 _) (fa125_cells _) rfl rfl rfl ?_
    intro tk10
    repeat (first | tbr_iter "zst" | tbr_iter "zl336" | tbr_iter "zcb")
    refine d_new ?_
    intro dn h9 tk11 edn k9 xdn
    have S9 := S8.keeps k9
    have smn : (dn == sysModules) = false := by
      have lt : @LT.lt Nat _ 66 h8.objs.size := Heap.lt_size (S8.kin _ _ (f66 _))
      refine beq_eq_false_iff_ne.mpr fun q => ?_
      have e1 : @Eq Nat h8.objs.size 1 := edn.symm.trans q
      omega
    refine d_ne_nil R' (S9.N (c1, isTab w []) (by tbr_iter "zin")).1 xdn sm1 smn ?_
    repeat (first | tbr_iter "zst" | tbr_iter "zl336" | tbr_iter "zcb")
    refine ite_neg (fun q => nomatch q) ?_
    repeat (first | tbr_iter "zst")
    refine ite_neg (fun q => nomatch q) ?_
    repeat (first | tbr_iter "zst")
    refine x_cons ?_
    refine r_for ?_ (by intro x; with_unfolding_all rfl)
    repeat (first | tbr_iter "zst")
    rename_i t10 tk12
    refine ⟨h9, tk12, _, _, _, rfl, IterOf.str (t := t10) R'.1 (by decide +kernel), fun I hI => ?_⟩
    have IL : I ≠ L := fun q => S9.low (q ▸ hI)
    refine ⟨fun i h => ∃ oa on, St w g L ((S "around", oa) :: (S "name", on) :: ((S "due", some (.ref du)) :: [(S "here", some (.ref x3)), (S "outer", some (.ref x2)), (S "outermost", some (.ref x1)), (S "given", some (.ref a0)), (S "lists", some v1), (S "tree", some v0)])) ((du, isStrs (kvs.map (·.1))) :: (LRa w x2 x3 d3 c3 g4 cp dp kvs ls.2.2 ++ (dp, isFields [(S "value", tv)]) :: LRb w L x1 d1 c1 g1 x2 d2 c2 g2 a1 a2 [(S "p", .ref cp), (S "q", cq)])) h, fun h10 k10 => ⟨none, none, ((S9.keeps k10).congr (mp_skip (by rfl)).symm).congr (mp_skip (by rfl)).symm⟩, ?_, ?_, ?_⟩
    · rintro i h h' ⟨oa, on, J⟩ nt k
      exact ⟨oa, on, S9.offm (X := [I]) (fun i hi => by rw [List.mem_singleton.mp hi]; exact hI) J rfl k⟩
    · rintro i v' h10 tk13 hi ⟨c, u, hc, rfl⟩ ⟨oa, on, J⟩ hI10
      generalize (⟨#[c]⟩ : Str) = nm
      refine so336_name J ?_
      intro h11 tk14 S11 k11
      refine x_asg ?_ (by with_unfolding_all rfl)
      refine r_mid (s := s) (fun v h => v = arV nm ls.2.2 [(S "p", .ref cp), (S "q", cq)] ∧ h11.StaysIn h) ?_ ?_
      · repeat (first | tbr_iter "zst" | tbr_iter "zl336")
        refine lo336_told_global (v := .ref a2) S11 (by tbr_iter "zin") ?_
        repeat (first | tbr_iter "zst" | tbr_iter "zl336")
        refine c_notin (l2.stays S11.F.keep) ?_
        repeat (first | tbr_iter "zst" | tbr_iter "zl336")
        by_cases q : (ls.2.2.any (· == nm)) = true
        · refine ite_neg (by rw [q]; decide) ?_
          repeat (first | tbr_iter "zst" | tbr_iter "zl336")
          exact ⟨_, _, rfl, by unfold arV; rw [if_pos q], fun _ _ e => e⟩
        · refine ite_pos (by rw [Bool.eq_false_iff.mpr q]; decide) ?_
          repeat (first | tbr_iter "zst" | tbr_iter "zl336" | tbr_iter "zcb")
          refine u_get S11 (S11.N (x2, isInst 125 d2) (by tbr_iter "zin")).1 (S11.N (d2, isFields (scF (.ref x1) c2 g2)) (by tbr_iter "zin")).1 (ga125_cells _) (hd125 _) (fa125_cells _) rfl rfl rfl ?_
          intro tk15
          repeat (first | tbr_iter "zst" | tbr_iter "zl336" | tbr_iter "zcb")
          have C11 := (S11.N (c2, isTab w [(S "p", .ref cp), (S "q", cq)]) (by tbr_iter "zin")).1
          refine d_method C11 ?_
          repeat (first | tbr_iter "zst" | tbr_iter "zl336" | tbr_iter "zcb")
          refine d_get C11 sm2 ?_
          intro tk16
          exact ⟨_, _, rfl, by unfold arV; rw [if_neg q], fun _ _ e => e⟩
      rintro vr h12 tk15 ⟨rfl, k12⟩
      have S12 := S11.keeps k12
      refine so336_around S12 ?_
      intro h13 tk16 S13' k13
      have S13 := S13'.congr mp_two
      clear S13' S12 S11
      refine x_if ?_
      repeat (first | tbr_iter "zst" | tbr_iter "zl336" | tbr_iter "zcb")
      refine u_meth S13 (S13.N (x3, isInst 125 d3) (by tbr_iter "zin")).1 (S13.N (d3, isFields (scF (.ref x2) c3 g4)) (by tbr_iter "zin")).1 (pg_find _) (ms_find _) (if_find _) rfl ?_
      refine callWith_put S13.kin (kp94 _) (by with_unfolding_all rfl) (by with_unfolding_all rfl) ?_
      repeat (first | tbr_iter "zst" | tbr_iter "zl336")
      refine u_pure S13 (sp_find (R'.le (by decide)) S13.B S13.F.keep (ch3 S13)) ?_
      rintro r h14 tk17 k14 S14 rfl
      repeat (first | tbr_iter "zst" | tbr_iter "zl336" | tbr_iter "zcb")
      refine u_get S14 (S14.N (x3, isInst 125 d3) (by tbr_iter "zin")).1 (S14.N (d3, isFields (scF (.ref x2) c3 g4)) (by tbr_iter "zin")).1 (ga125_cells _) (hd125 _) (fa125_cells _) rfl rfl rfl ?_
      intro tk18
      repeat (first | tbr_iter "zst" | tbr_iter "zl336" | tbr_iter "zcb")
      have C14 := (S14.N (c3, isTab w kvs) (by tbr_iter "zin")).1
      refine d_method C14 ?_
      repeat (first | tbr_iter "zst" | tbr_iter "zl336" | tbr_iter "zcb")
      refine d_get C14 sm3 ?_
      intro tk19
      rw [find_ar]
      refine c_isnot (ar_isRN hb hq) ?_
      repeat (first | tbr_iter "zst" | tbr_iter "zl336" | tbr_iter "zcb")
      refine ite_neg (fun q => nomatch q) ?_
      repeat (first | tbr_iter "zst")
      refine forK_next (fun b hb o e => ?_) ⟨_, _, S14⟩
      rw [List.mem_singleton.mp hb] at e ⊢
      exact k14 _ _ (k13 _ _ IL (k12 _ _ (k11 _ _ IL e)))
    · rintro h10 tk13 ⟨oa, on, J⟩
      refine seqK_next ?_
      refine x_asg ?_ (by with_unfolding_all rfl)
      repeat (first | tbr_iter "zst" | tbr_iter "zl336" | (with_reducible refine Call_ ?_ (by with_unfolding_all rfl)))
      refine callWith_put J.kin (kp125 _) (by with_unfolding_all rfl) (by with_unfolding_all rfl) ?_
      repeat (first | tbr_iter "zst" | tbr_iter "zl336")
      refine ⟨J.kin, u_scope (R'.le (by decide)) J.B J.F.keep (ch3 J) ?_⟩
      intro x4 d4 c4 g5 h11 tk14 k11 y1 y2 y3 y4 n1 n2 n3 n4 sm4 nd4
      have S11 := (J.keeps k11).addAll (nw := SL w x4 d4 c4 g5 (.ref x3) [] []) (SL.all ⟨y1, J.offL n1⟩ ⟨y2, J.offL n2⟩ ⟨y3, J.offL n3⟩ ⟨y4, J.offL n4⟩)
      have dJ := (J.N (dp, isFields [(S "value", tv)]) (by tbr_iter "zin")).1
      have nb : ∀ {b : Addr}, h10.get? b = none → b ≠ dp := fun {b} e q => by
        obtain ⟨o, e', _⟩ := dJ
        rw [q, show h10.get? dp = some o from e'] at e; cases e
      have ne' : ∀ p ∈ (SL w x4 d4 c4 g5 (.ref x3) [] [] ++ (du, isStrs (kvs.map (·.1))) :: LRa w x2 x3 d3 c3 g4 cp dp kvs ls.2.2) ++ LRb w L x1 d1 c1 g1 x2 d2 c2 g2 a1 a2 [(S "p", .ref cp), (S "q", cq)], p.1 ≠ dp := fun p hp => by
        rw [List.append_assoc] at hp
        rcases List.mem_append.mp hp with hp | hp
        · exact SL.all (R := fun q => q.1 ≠ dp) (nb n1) (nb n2) (nb n3) (nb n4) p hp
        · rcases List.mem_cons.mp hp with rfl | hp
          · exact nedu
          · exact ne p hp
      refine so336_inner S11 ?_
      intro h12 tk15 S12' k12
      have S12 : St w g L _ ((SL w x4 d4 c4 g5 (.ref x3) [] [] ++ (du, isStrs (kvs.map (·.1))) :: LRa w x2 x3 d3 c3 g4 cp dp kvs ls.2.2) ++ (dp, isFields [(S "value", tv)]) :: LRb w L x1 d1 c1 g1 x2 d2 c2 g2 a1 a2 [(S "p", .ref cp), (S "q", cq)]) h12 := S12'
      clear S12' S11
      refine x_setattr ?_ (by with_unfolding_all rfl)
      repeat (first | tbr_iter "zst" | tbr_iter "zl336")
      refine r_newTuple ?_ (by exact Nat.le_of_ble_eq_true rfl)
      intro h13 tb k13 etb e13
      have fr := S12.fresh
      have S13 : St w g L _ (((tb, isBT) :: (SL w x4 d4 c4 g5 (.ref x3) [] [] ++ (du, isStrs (kvs.map (·.1))) :: LRa w x2 x3 d3 c3 g4 cp dp kvs ls.2.2)) ++ (dp, isFields [(S "value", tv)]) :: LRb w L x1 d1 c1 g1 x2 d2 c2 g2 a1 a2 [(S "p", .ref cp), (S "q", cq)]) h13 := (S12.keeps k13).add (P := isBT) ⟨_, e13, _, rfl⟩ (etb ▸ fr.2.1) (etb ▸ fr.1)
      have tbd : tb ≠ dp := fun e => fr.2.2 (dp, isFields [(S "value", tv)]) (by tbr_iter "zin") (e.symm.trans etb)
      repeat (first | tbr_iter "zst" | tbr_iter "zl336" | tbr_iter "zcb")
      refine u_get S13 (S13.N (x2, isInst 125 d2) (by tbr_iter "zin")).1 (S13.N (d2, isFields (scF (.ref x1) c2 g2)) (by tbr_iter "zin")).1 (ga125_cells _) (hd125 _) (fa125_cells _) rfl rfl rfl ?_
      intro tk16
      repeat (first | tbr_iter "zst" | tbr_iter "zl336" | tbr_iter "zcb")
      refine d_item (S13.N (c2, isTab w [(S "p", .ref cp), (S "q", cq)]) (by tbr_iter "zin")).1 (v := .ref cp) (by rfl) ?_ (by with_unfolding_all rfl)
      intro tk17
      refine u_set S13 (fun p hp => by
        rcases List.mem_cons.mp hp with rfl | hp
        · exact tbd
        · exact ne' p hp) (S13.N (cp, isInst 69 dp) (by tbr_iter "zin")).1 (sa69 _) (po69 _) (ta69_value _) (hd69 _) (by simp) ?_
      intro h14 tk18 S14'
      have eF : putF (Str.ofString "value") (.ref tb) [(S "value", tv)] = [(S "value", .ref tb)] := by rfl
      rw [eF] at S14'
      generalize hkv2 : [(S "p", Value.ref cp), (S "q", cq)] = kv2 at *
      have S14 : St w g L _ ((tb, isBT) :: (SL w x4 d4 c4 g5 (.ref x3) [] [] ++ ((du, isStrs (kvs.map (·.1))) :: (LRa w x2 x3 d3 c3 g4 cp dp kvs ls.2.2 ++ (dp, isFields [(S "value", .ref tb)]) :: LRb w L x1 d1 c1 g1 x2 d2 c2 g2 a1 a2 kv2)))) h14 := S14'
      clear S14'
      have H14 : ∀ q ∈ (tb, isBT) :: (SL w x4 d4 c4 g5 (.ref x3) [] [] ++ ((du, isStrs (kvs.map (·.1))) :: (LRa w x2 x3 d3 c3 g4 cp dp kvs ls.2.2 ++ (dp, isFields [(S "value", .ref tb)]) :: LRb w L x1 d1 c1 g1 x2 d2 c2 g2 a1 a2 kv2))), Has h14 q := fun q hq => (S14.N q hq).1
      have ch4 : ScAt w h14 (.ref x4) [([], []), (kvs, ls.2.2), (kv2, []), ([], [])] :=
        .cons (H14 (x4, isInst 125 d4) (by tbr_iter "zin")) (H14 (d4, isFields (scF (.ref x3) c4 g5)) (by tbr_iter "zin")) (H14 (c4, isTab w []) (by tbr_iter "zin")) (H14 (g5, isStrs []) (by tbr_iter "zin")) sm4
          (.cons (H14 (x3, isInst 125 d3) (by tbr_iter "zin")) (H14 (d3, isFields (scF (.ref x2) c3 g4)) (by tbr_iter "zin")) (H14 (c3, isTab w kvs) (by tbr_iter "zin")) (H14 (g4, isStrs ls.2.2) (by tbr_iter "zin")) sm3
            (.cons (H14 (x2, isInst 125 d2) (by tbr_iter "zin")) (H14 (d2, isFields (scF (.ref x1) c2 g2)) (by tbr_iter "zin")) (H14 (c2, isTab w kv2) (by tbr_iter "zin")) (H14 (g2, isStrs []) (by tbr_iter "zin")) sm2
              (.cons (H14 (x1, isInst 125 d1) (by tbr_iter "zin")) (H14 (d1, isFields (scF .none c1 g1)) (by tbr_iter "zin")) (H14 (c1, isTab w []) (by tbr_iter "zin")) (H14 (g1, isStrs []) (by tbr_iter "zin")) sm1 .nil)))
      refine x_asg ?_ (by with_unfolding_all rfl)
      repeat (first | tbr_iter "zst" | tbr_iter "zl336" | tbr_iter "zcb")
      refine u_meth S14 (S14.N (x4, isInst 125 d4) (by tbr_iter "zin")).1 (S14.N (d4, isFields (scF (.ref x3) c4 g5)) (by tbr_iter "zin")).1 (pg_find _) (ms_find _) (if_find _) rfl ?_
      refine callWith_put S14.kin (kp94 _) (by with_unfolding_all rfl) (by with_unfolding_all rfl) ?_
      repeat (first | tbr_iter "zst" | tbr_iter "zl336")
      refine u_pure S14 (sp_find (R'.le (by decide)) S14.B S14.F.keep ch4) ?_
      rintro r h15 tk19 k15 S15 rfl
      have fe : findV (Str.ofString "p") [([], []), (kvs, ls.2.2), (kv2, []), ([], [])] = (valueAt kvs (S "p")).getD (arV (S "p") ls.2.2 kv2) := (by rfl : _ = findV (S "p") [(kvs, ls.2.2), (kv2, []), ([], [])]).trans find_ar
      rw [fe]
      refine so336_cell S15 ?_
      intro h16 tk20 S16 k16
      have done : ∀ {h : Heap} {tk : Nat} {l : LM} {led : Led}, St w g L l led h → Ret s [] (fun r _ => r = .bool true) (.bool true) (up s h tk) := fun SJ => r_ret SJ (fun b o _ e => kg b o e) rfl
      refine x_ret ?_
      repeat (first | tbr_iter "zst" | tbr_iter "zl336" | tbr_iter "zcb")
      refine c_inl (S16.N (du, isStrs (kvs.map (·.1))) (by tbr_iter "zin")).1 ?_
      repeat (first | tbr_iter "zst" | tbr_iter "zl336" | tbr_iter "zcb")
      by_cases q1 : ((kvs.map (·.1)).any (· == Str.ofString "p")) = true
      · rw [q1]
        repeat (first | tbr_iter "zst" | tbr_iter "zif")
        exact done S16
      have q1' := Bool.eq_false_iff.mpr q1
      rw [q1']
      repeat (first | tbr_iter "zst" | tbr_iter "zif")
      refine lo336_told_global (v := .ref a2) S16 (by tbr_iter "zin") ?_
      repeat (first | tbr_iter "zst" | tbr_iter "zif")
      refine c_inl (l2.stays S16.F.keep) ?_
      repeat (first | tbr_iter "zst")
      by_cases q2 : (ls.2.2.any (· == Str.ofString "p")) = true
      · rw [q2]
        repeat (first | tbr_iter "zst" | tbr_iter "zif")
        exact done S16
      have q2' := Bool.eq_false_iff.mpr q2
      rw [q2']
      have vn : valueAt kvs (S "p") = none := by
        have := valueAt_keys (kvs := kvs) (nm := S "p")
        rw [q1'] at this
        cases e : valueAt kvs (S "p") with
        | none => rfl
        | some v => rw [e] at this; cases this
      have eC : (valueAt kvs (S "p")).getD (arV (S "p") ls.2.2 kv2) = .ref cp := by
        rw [vn]
        show arV (S "p") ls.2.2 kv2 = .ref cp
        unfold arV
        rw [if_neg q2, ← hkv2]
        rfl
      rw [eC] at S16
      repeat (first | tbr_iter "zst" | tbr_iter "zif" | tbr_iter "zl336" | tbr_iter "zcb")
      refine u_get S16 (S16.N (cp, isInst 69 dp) (by tbr_iter "zin")).1 (S16.N (dp, isFields [(S "value", .ref tb)]) (by tbr_iter "zin")).1 (ga69_value _) (hd69 _) (fa69_value _) rfl rfl rfl ?_
      intro tk21
      repeat (first | tbr_iter "zst" | tbr_iter "zif" | tbr_iter "zl336" | tbr_iter "zcb")
      refine r_newTuple ?_ (by exact Nat.le_of_ble_eq_true rfl)
      intro h17 t17 k17 _ e17
      have S17 := S16.keeps k17
      obtain ⟨ob, eb, tt, rfl⟩ := (S17.N (tb, isBT) (.head _)).1
      have sb : ∀ {k : Nat} (x : Str) (t u : Nat), PySem.SeqAt.EqAt (A.deeper (envR L)).in1 (up s h17 k) (.str x t) (.str x u) true := fun {k} x t u => by
        have := PySem.SeqAt.EqAt.str_str (A := (A.deeper (envR L)).in1) (s := up s h17 k) x t x u
        rwa [beq_self_eq_true] at this
      refine PySem.SeqAt.eq_tupleAt (s := up s h17 _) (e := fun _ => true) ⟨_, eb, rfl, _, rfl⟩ ⟨_, e17, rfl, _, rfl⟩ R'.units (fun j h1 h2 => ?_) ?_
      · match j, h1 with
        | 0, _ => exact sb _ _ _
        | 1, _ => exact PySem.SeqAt.EqAt.same _
      · exact done S17
end

section
variable {w : World} {A : Around} {s : Shared} {h₀ : Heap}
theorem sp_right {v : Value} {t : T} {n : Nat} {es : List Ev} {lt a0 a1 a2 : Addr} (R : Room 14 A) (B : Bs w h₀) (k₀ : h₀.StaysIn s.heap) (ht : TreeAt s.heap v t) (hw : Wk n t es) (hn : n ≤ 600) (hlt : IsTup s.heap lt [.ref a0, .ref a1, .ref a2].toArray)
    (hL : ∀ p ∈ L3 a0 a1 a2 (run es ([], [], [])), Has s.heap p) :
    wpAny (model PW w) A (call (.ref 336) [v, .ref lt]) (Ret s [] fun r _ => r = .bool true) NoE s := by
  refine en336 R B k₀ ?_
  intro g L h₁ tk SS hg kg k₁ R'
  have gt : TreeAt g v t := ht.mono (TupKeep.of_stays kg)
  have glt := hlt.keeps kg
  have gL : ∀ p ∈ L3 a0 a1 a2 (run es ([], [], [])), Has g p := fun p hp => (hL p hp).stays kg
  have G : Gds (run es ([], [], [])) := Gds.run ⟨Gd.nil, Gd.nil, Gd.nil⟩ hw.ok
  generalize hls : run es ([], [], []) = ls at *
  have n0 : ∀ {b : Addr}, g.get? b = none → h₀.get? b = none := fun {b} e => by
    cases q : h₀.get? b with
    | none => rfl
    | some o => rw [hg _ _ q] at e; cases e
  have cn : L + 1 + 1 ≠ L + 1 := Nat.succ_ne_self _
  refine x_tup R'.1 ?_ (by rfl) (by rfl) (by rfl)
  refine lo336_lists SS (by rfl) ?_
  refine ⟨h₁, _, lt, _, rfl, rfl, glt.keeps SS.F.keep, rfl, fun h2 tk2 k2 => ?_⟩
  have S2 := SS.keeps k2
  refine assignInOrder_cons ?_
  refine assign_Name ?_
  refine so336_given S2 ?_
  intro h3 tk3 S3 k3
  refine assignInOrder_cons ?_
  refine assign_Name ?_
  refine r_storeC (pre := [(L + 1 + 1, isCellO none)]) (post := []) S3 (by simp) ?_ (by kernel_rfl) (by kernel_rfl) (by kernel_rfl)
  intro h4 S4 k4
  refine assignInOrder_cons ?_
  refine assign_Name ?_
  refine r_storeC (pre := []) (post := [(L + 1, isCell (.ref a1))]) S4 (by simp) ?_ (by kernel_rfl) (by kernel_rfl) (by kernel_rfl)
  intro h5 S5 k5
  refine assignInOrder_nil ?_
  have nd5 : (([] ++ (L + 1 + 1, isCell (.ref a2)) :: [(L + 1, isCell (.ref a1))] : Led).map (·.1)).Nodup := by simp
  -- outermost
  refine x_asg ?_ (by with_unfolding_all rfl)
  repeat (first | tbr_iter "zst" | tbr_iter "zl336" | (with_reducible refine Call_ ?_ (by with_unfolding_all rfl)))
  refine callWith_put S5.kin (kp125 _) (by with_unfolding_all rfl) (by with_unfolding_all rfl) ?_
  repeat (first | tbr_iter "zst" | tbr_iter "zl336")
  refine n_scope R' (by decide) S5 nd5 .nil ?_
  intro x1 d1 c1 g1 h6 tk6 k6 S6 nd6 sm1 _
  refine so336_outermost S6 ?_
  intro h7 tk7 S7 k7
  have A7 := S7.N
  -- outer
  refine x_asg ?_ (by with_unfolding_all rfl)
  repeat (first | tbr_iter "zst" | tbr_iter "zl336" | (with_reducible refine Call_ ?_ (by with_unfolding_all rfl)))
  refine callWith_put S7.kin (kp125 _) (by with_unfolding_all rfl) (by with_unfolding_all rfl) ?_
  repeat (first | tbr_iter "zst" | tbr_iter "zl336")
  have ch1 : ∀ {h : Heap} {l : LM} {led : Led}, St w g L l (led ++ SL w x1 d1 c1 g1 .none [] [] ++ [(L + 1 + 1, isCell (.ref a2)), (L + 1, isCell (.ref a1))]) h → ScAt w h (.ref x1) [([], [])] := fun {h l led} S => by
    have H : ∀ q ∈ SL w x1 d1 c1 g1 .none [] [], Has h q := fun q hq => (S.N q (List.mem_append_left _ (List.mem_append_right _ hq))).1
    exact .cons (H _ (by tbr_iter "zin")) (H _ (by tbr_iter "zin")) (H _ (by tbr_iter "zin")) (H _ (by tbr_iter "zin")) sm1 .nil
  refine n_scope R' (by decide) S7 nd6 (ch1 (led := []) S7) ?_
  intro x2 d2 c2 g2 h8 tk8 k8 S8 nd8 sm2 _
  refine so336_outer S8 ?_
  intro h9 tk9 S9 k9
  -- outer.bind('p', ..)
  refine x_expr ?_ (by with_unfolding_all rfl) (by with_unfolding_all rfl)
  repeat (first | tbr_iter "zst" | tbr_iter "zl336" | tbr_iter "zcb")
  refine u_meth S9 (S9.N (x2, isInst 125 d2) (by tbr_iter "zin")).1 (S9.N (d2, isFields (scF (.ref x1) c2 g2)) (by tbr_iter "zin")).1 (pg_bind _) (ms_bind _) (if_bind _) rfl ?_
  refine callWith_put S9.kin (kp108 _) (by with_unfolding_all rfl) (by with_unfolding_all rfl) ?_
  repeat (first | tbr_iter "zst" | tbr_iter "zl336")
  refine r_newTuple ?_ (by exact Nat.le_of_ble_eq_true rfl)
  intro h10 tp k10 _ e10
  have S10 := S9.keeps k10
  repeat (first | tbr_iter "zst" | tbr_iter "zl336")
  have ne2 := nd_ne (pre := [(x2, isInst 125 d2), (d2, isFields (scF (.ref x1) c2 g2))]) (a := c2) (P := isTab w []) nd8
  have C10 := S10.N (c2, isTab w []) (by tbr_iter "zin")
  refine ⟨S10.kin, r_use (sp_bind (R'.le (by decide)) B (fun b o e => S10.F.keep b o (hg b o e)) (S10.N (x2, isInst 125 d2) (by tbr_iter "zin")).1 (S10.N (d2, isFields (scF (.ref x1) c2 g2)) (by tbr_iter "zin")).1 rfl C10.1 (n0 C10.2.2) (ne2 (x2, isInst 125 d2) (.head _)) (ne2 (d2, isFields (scF (.ref x1) c2 g2)) (.tail _ (.head _))) (by simp)) ?_⟩
  rintro r h11 tk11 k11 ⟨cp, dp, hcell, ncp, ndp, cdp, x11⟩
  obtain ⟨S11, nd11⟩ := St.wr (pre := [(x2, isInst 125 d2), (d2, isFields (scF (.ref x1) c2 g2))]) (nw := [(cp, isInst 69 dp), (dp, isFields [(S "value", .ref tp)])]) S10 nd8 k11 x11 (fun p hp => by
    rcases List.mem_cons.mp hp with rfl | hp
    · exact ⟨hcell.1, ncp⟩
    · rw [List.mem_singleton.mp hp]; exact ⟨hcell.2, ndp⟩) (by simp; exact cdp)
  -- outer.bind('q', None)
  repeat (first | tbr_iter "zst" | tbr_iter "zl336" | tbr_iter "zcb")
  refine u_meth S11 (S11.N (x2, isInst 125 d2) (by tbr_iter "zin")).1 (S11.N (d2, isFields (scF (.ref x1) c2 g2)) (by tbr_iter "zin")).1 (pg_bind _) (ms_bind _) (if_bind _) rfl ?_
  refine callWith_put S11.kin (kp108 _) (by with_unfolding_all rfl) (by with_unfolding_all rfl) ?_
  repeat (first | tbr_iter "zst" | tbr_iter "zl336")
  have ne3 := nd_ne (pre := [(cp, isInst 69 dp), (dp, isFields [(S "value", .ref tp)]), (x2, isInst 125 d2), (d2, isFields (scF (.ref x1) c2 g2))]) (a := c2) (P := isTab w (stored [] (Str.ofString "p") (.ref cp))) nd11
  have C11 := S11.N (c2, isTab w (stored [] (Str.ofString "p") (.ref cp))) (by tbr_iter "zin")
  refine ⟨S11.kin, r_use (sp_bind (R'.le (by decide)) B (fun b o e => S11.F.keep b o (hg b o e)) (S11.N (x2, isInst 125 d2) (by tbr_iter "zin")).1 (S11.N (d2, isFields (scF (.ref x1) c2 g2)) (by tbr_iter "zin")).1 rfl C11.1 (n0 C11.2.2) (ne3 (x2, isInst 125 d2) (by tbr_iter "zin")) (ne3 (d2, isFields (scF (.ref x1) c2 g2)) (by tbr_iter "zin")) (by simp [stored])) ?_⟩
  rintro r h12 tk12 k12 ⟨cq, dq, _, _, _, _, x12⟩
  obtain ⟨S12', nd12⟩ := St.wr (pre := [(cp, isInst 69 dp), (dp, isFields [(S "value", .ref tp)]), (x2, isInst 125 d2), (d2, isFields (scF (.ref x1) c2 g2))]) (nw := []) S11 nd11 k12 x12 (fun p hp => nomatch hp) (by simp)
  have ek : stored (stored [] (Str.ofString "p") (.ref cp)) (Str.ofString "q") (.ref cq) = [(S "p", .ref cp), (S "q", .ref cq)] := by with_unfolding_all rfl
  rw [ek] at S12' nd12
  generalize hkv : [(S "p", Value.ref cp), (S "q", Value.ref cq)] = kv2 at *
  have S12 : St w g L _ ([(cp, isInst 69 dp), (dp, isFields [(S "value", .ref tp)])] ++ (SL w x2 d2 c2 g2 (.ref x1) kv2 [] ++ (SL w x1 d1 c1 g1 .none [] [] ++ [(L + 1 + 1, isCell (.ref a2)), (L + 1, isCell (.ref a1))]))) h12 := S12'
  replace nd12 : (([(cp, isInst 69 dp), (dp, isFields [(S "value", .ref tp)])] ++ (SL w x2 d2 c2 g2 (.ref x1) kv2 [] ++ (SL w x1 d1 c1 g1 .none [] [] ++ [(L + 1 + 1, isCell (.ref a2)), (L + 1, isCell (.ref a1))])) : Led).map (·.1)).Nodup := nd12
  clear S12'
  have ch2 : ∀ {h : Heap}, (∀ q ∈ SL w x2 d2 c2 g2 (.ref x1) kv2 [] ++ SL w x1 d1 c1 g1 .none [] [], Has h q) → ScAt w h (.ref x2) [(kv2, []), ([], [])] := fun {h} H => by
    exact .cons (H _ (by tbr_iter "zin")) (H _ (by tbr_iter "zin")) (H _ (by tbr_iter "zin")) (H _ (by tbr_iter "zin")) sm2 (.cons (H _ (by tbr_iter "zin")) (H _ (by tbr_iter "zin")) (H _ (by tbr_iter "zin")) (H _ (by tbr_iter "zin")) sm1 .nil)
  -- here
  refine seqK_next ?_
  refine x_asg ?_ (by with_unfolding_all rfl)
  repeat (first | tbr_iter "zst" | tbr_iter "zl336" | (with_reducible refine Call_ ?_ (by with_unfolding_all rfl)))
  refine callWith_put S12.kin (kp125 _) (by with_unfolding_all rfl) (by with_unfolding_all rfl) ?_
  repeat (first | tbr_iter "zst" | tbr_iter "zl336")
  refine n_scope R' (by decide) S12 nd12 (ch2 fun q hq => (S12.N q (List.mem_append_right _ (by rw [← List.append_assoc]; exact List.mem_append_left _ hq))).1) ?_
  intro x3 d3 c3 g3 h13 tk13 k13 S13 nd13 sm3 nw3
  refine so336_here S13 ?_
  intro h14 tk14 S14 k14
  -- here.open_for([tree])
  refine x_expr ?_ (by with_unfolding_all rfl) (by with_unfolding_all rfl)
  repeat (first | tbr_iter "zst" | tbr_iter "zl336" | tbr_iter "zcb")
  refine u_meth S14 (S14.N (x3, isInst 125 d3) (by tbr_iter "zin")).1 (S14.N (d3, isFields (scF (.ref x2) c3 g3)) (by tbr_iter "zin")).1 (pg_open _) (ms_open _) (if_open _) rfl ?_
  refine callWith_put S14.kin (kp122 _) (by with_unfolding_all rfl) (by with_unfolding_all rfl) ?_
  repeat (first | tbr_iter "zst" | tbr_iter "zl336")
  refine r_newList ?_ (by exact Nat.le_of_ble_eq_true rfl)
  intro h15 tl k15 etl e15
  have S15 := S14.keeps k15
  have fr := S14.fresh
  repeat (first | tbr_iter "zst" | tbr_iter "zl336")
  have D15 := S15.N (d3, isFields (scF (.ref x2) c3 g3)) (by tbr_iter "zin")
  have C15 := S15.N (c3, isTab w []) (by tbr_iter "zin")
  have ne4 := nd_ne (pre := [(x3, isInst 125 d3)]) (a := d3) (P := isFields (scF (.ref x2) c3 g3)) nd13
  have ne5 := nd_ne (pre := [(x3, isInst 125 d3), (d3, isFields (scF (.ref x2) c3 g3))]) (a := c3) (P := isTab w []) nd13
  have hideG : ∀ b o, g.get? b = some o → (hideAll h15 [d3, c3]).get? b = some o := fun b o e => hideAll_get _ (S15.F.keep b o e) fun q => by
    rcases List.mem_cons.mp q with rfl | q
    · rw [D15.2.2] at e; cases e
    · rw [List.mem_singleton.mp q, C15.2.2] at e; cases e
  have hide2 : ∀ q ∈ SL w x2 d2 c2 g2 (.ref x1) kv2 [] ++ SL w x1 d1 c1 g1 .none [] [], Has (hideAll h15 [d3, c3]) q := fun q hq => by
    have m : q ∈ SL w x2 d2 c2 g2 (.ref x1) kv2 [] ++ (SL w x1 d1 c1 g1 .none [] [] ++ [(L + 1 + 1, isCell (.ref a2)), (L + 1, isCell (.ref a1))]) := by rw [← List.append_assoc]; exact List.mem_append_left _ hq
    refine (S15.N q (List.mem_append_right _ (List.mem_append_right _ m))).1.hide fun z => ?_
    rcases List.mem_cons.mp z with e | z
    · exact ne4 q (.tail _ (.tail _ (.tail _ (.tail _ (.tail _ m))))) e
    · exact ne5 q (.tail _ (.tail _ (.tail _ (.tail _ (.tail _ m))))) (List.mem_singleton.mp z)
  refine ⟨S15.kin, r_use (sp_open (h₀ := hideAll h15 [d3, c3]) (ch := [(kv2, []), ([], [])]) (n := n) (es := es) (R'.le (by decide)) (B.keeps fun b o e => hideG b o (hg b o e)) (fun b o e => of_hideAll _ e) (S15.N (x3, isInst 125 d3) (by tbr_iter "zin")).1 D15.1 C15.1 (ch2 hide2) ⟨_, e15, rfl, _, rfl⟩ (gt.mono (TupKeep.of_stays S15.F.keep)) hw hn (hideAll_none _ (by simp)) (hideAll_none _ (by simp)) (ne5 (x3, isInst 125 d3) (by tbr_iter "zin")) (ne4 (x3, isInst 125 d3) (by tbr_iter "zin")) (ne5 (d3, isFields (scF (.ref x2) c3 g3)) (by tbr_iter "zin"))
    ⟨fun e => fr.2.2 (c3, isTab w []) (by tbr_iter "zin") (e.symm.trans etl), fun e => fr.2.2 (d3, isFields (scF (.ref x2) c3 g3)) (by tbr_iter "zin") (e.symm.trans etl)⟩ sm3) ?_⟩
  rw [hls]
  rintro r h16 tk16 k16 ⟨g4, kvs, y1, y2, y3, y4, y5, y6⟩
  have S16a : St w g L _ ((d3, isFields (scF (.ref x2) c3 g4)) :: (c3, isTab w kvs) :: (x3, isInst 125 d3) :: (cp, isInst 69 dp) :: (dp, isFields [(S "value", .ref tp)]) :: LRb w L x1 d1 c1 g1 x2 d2 c2 g2 a1 a2 kv2) h16 := S15.but k16 (fun a ha => by
      rcases List.mem_cons.mp ha with rfl | ha
      · exact D15.2
      · rw [List.mem_singleton.mp ha]; exact C15.2) fun q hq => by
    rcases List.mem_cons.mp hq with rfl | hq
    · exact .inr ⟨.head _, y1⟩
    · rcases List.mem_cons.mp hq with rfl | hq
      · exact .inr ⟨.tail _ (.head _), y4⟩
      · have m4 : q ∈ [(x3, isInst 125 d3)] ++ ((c3, isTab w []) :: (g3, isStrs []) :: ((cp, isInst 69 dp) :: (dp, isFields [(S "value", .ref tp)]) :: LRb w L x1 d1 c1 g1 x2 d2 c2 g2 a1 a2 kv2)) := by
          rcases List.mem_cons.mp hq with rfl | hq
          · exact .head _
          · exact .tail _ (.tail _ (.tail _ hq))
        have m5 : q ∈ [(x3, isInst 125 d3), (d3, isFields (scF (.ref x2) c3 g3))] ++ ((g3, isStrs []) :: ((cp, isInst 69 dp) :: (dp, isFields [(S "value", .ref tp)]) :: LRb w L x1 d1 c1 g1 x2 d2 c2 g2 a1 a2 kv2)) := by
          rcases List.mem_cons.mp hq with rfl | hq
          · exact .head _
          · exact .tail _ (.tail _ (.tail _ hq))
        refine .inl ⟨?_, fun z => ?_⟩
        · rcases List.mem_cons.mp hq with rfl | hq
          · exact .head _
          · exact .tail _ (.tail _ (.tail _ (.tail _ hq)))
        · rcases List.mem_cons.mp z with e | z
          · exact ne4 q m4 e
          · exact ne5 q m5 (List.mem_singleton.mp z)
  have S16b := S16a.add y2 (S15.offL y3).1 (S15.offL y3).2
  have S16 : St w g L _ (LRa w x2 x3 d3 c3 g4 cp dp kvs ls.2.2 ++ (dp, isFields [(S "value", .ref tp)]) :: LRb w L x1 d1 c1 g1 x2 d2 c2 g2 a1 a2 kv2) h16 := S16b.sub fun q hq => by
    rcases List.mem_cons.mp hq with rfl | hq
    · exact .tail _ (.head _)
    · rcases List.mem_cons.mp hq with rfl | hq
      · exact .tail _ (.tail _ (.head _))
      · rcases List.mem_cons.mp hq with rfl | hq
        · exact .head _
        · exact .tail _ (.tail _ (.tail _ hq))
  have ne6 := nd_ne (pre := [(x3, isInst 125 d3), (d3, isFields (scF (.ref x2) c3 g3)), (c3, isTab w []), (g3, isStrs []), (cp, isInst 69 dp)]) (a := dp) (P := isFields [(S "value", .ref tp)]) (post := LRb w L x1 d1 c1 g1 x2 d2 c2 g2 a1 a2 kv2) nd13
  have nee : ∀ p ∈ LRa w x2 x3 d3 c3 g4 cp dp kvs ls.2.2 ++ LRb w L x1 d1 c1 g1 x2 d2 c2 g2 a1 a2 kv2, p.1 ≠ dp := fun p hp => by
    rcases List.mem_cons.mp hp with rfl | hp
    · exact ne6 (d3, isFields (scF (.ref x2) c3 g3)) (by tbr_iter "zin")
    · rcases List.mem_cons.mp hp with rfl | hp
      · exact ne6 (c3, isTab w []) (by tbr_iter "zin")
      · rcases List.mem_cons.mp hp with rfl | hp
        · intro e
          obtain ⟨o, eo, _⟩ := (S15.N (dp, isFields [(S "value", .ref tp)]) (by tbr_iter "zin")).1
          have y3' : h15.get? g4 = none := y3
          rw [show g4 = dp from e, show h15.get? dp = some o from eo] at y3'; cases y3'
        · rcases List.mem_cons.mp hp with rfl | hp
          · exact ne6 (x3, isInst 125 d3) (by tbr_iter "zin")
          · exact ne6 p (.tail _ (.tail _ (.tail _ (.tail _ hp))))
  subst hkv
  exact right_rest R' kg S16 nee (.inr ⟨cq, rfl⟩) gL G y5 y6 sm1 sm2 sm3
end

section
variable {w : World} {A : Around} {E : Value → Shared → Prop} {s : Shared} {h : Heap} {tk : Nat}
theorem c_ne_tup3 {n : Nat} {f t a0 a1 a2 b0 b1 b2 : Addr} {ls : Ls} {Q : Value → Shared → Prop} (R : Room n A) (hf : IsTup h f [.ref a0, .ref a1, .ref a2].toArray) (ht : IsTup h t [.ref b0, .ref b1, .ref b2].toArray)
    (Ha : ∀ p ∈ L3 a0 a1 a2 ls, Has h p) (Hb : ∀ p ∈ L3 b0 b1 b2 ls, Has h p) (q : Q (.bool false) (up s h tk)) : wpAny (model PW w) A (compareOp .NotEq (.ref f) (.ref t)) Q E (up s h tk) := by
  have hu : A.in1.units < cLine := by
    have := R.2.2.1
    have c : 9001 < cLine := by decide
    show A.units + 1 < cLine; omega
  have eq : ∀ {a b : Addr} {l : List Str}, Has h (a, isStrs l) → Has h (b, isStrs l) → PySem.SeqAt.EqAt A.in1 (up s h tk) (.ref a) (.ref b) true := fun {a b l} x y => by
    by_cases e : a = b
    · subst e; exact .same _
    · exact c_eq_strs hu x y e
  have key := PySem.SeqAt.RcNeAt.tuples (A := A) (s := up s h tk) (e := fun _ => true) hf ht R.units (fun j h1 h2 => by
    match j, h1 with
    | 0, _ => exact eq (Ha _ (.head _)) (Hb _ (.head _))
    | 1, _ => exact eq (Ha _ (.tail _ (.head _))) (Hb _ (.tail _ (.head _)))
    | 2, _ => exact eq (Ha _ (.tail _ (.tail _ (.head _)))) (Hb _ (.tail _ (.tail _ (.head _)))))
  exact key _ _ _ _ q
theorem drawn_all : ∀ d, d ≤ 5 → DrawnAt w d
  | 0, _ => drawn_zero
  | d + 1, hd => drawn_succ (drawn_all d (by omega)) (by omega)
theorem m_min {a b : Int} {t u : Nat} {Q : Value → Shared → Prop} (hh : A.handled = none) (q : ∀ c t' h' tk', (c = a ∨ c = b) → c ≤ b → h.StaysIn h' → Q (.int c t') (up s h' tk')) : wpAny (model PW w) A (call (.builtin "min") [.int a t, .int b u]) Q E (up s h tk) :=
  PySem.min_two_ints (s := up s h tk) hh fun h' tk' k => by
    by_cases e : b < a
    · rw [if_pos e]; exact q b u h' tk' (.inr rfl) (Int.le_refl _) k
    · rw [if_neg e]; exact q a t h' tk' (.inl rfl) (by omega) k
theorem m_max {a b : Int} {t u : Nat} {Q : Value → Shared → Prop} (hh : A.handled = none) (q : ∀ c t' h' tk', (c = a ∨ c = b) → a ≤ c → h.StaysIn h' → Q (.int c t') (up s h' tk')) : wpAny (model PW w) A (call (.builtin "max") [.int a t, .int b u]) Q E (up s h tk) :=
  PySem.max_two_ints (s := up s h tk) hh fun h' tk' k => by
    by_cases e : b > a
    · rw [if_pos e]; exact q b u h' tk' (.inr rfl) (by omega) k
    · rw [if_neg e]; exact q a t h' tk' (.inl rfl) (Int.le_refl _) k
end

noncomputable def isO (o : Obj) : OP := fun o' => o' = o
noncomputable def loopT : T := .node (S "while") [.sym (S "a"), .node (S "=") [.sym (S "b"), .int]]
theorem loopT_wk : Wk 2 loopT [] := .first (by decide) .sym
section
variable {w : World} {A : Around} {s : Shared} {h₀ : Heap}
theorem sp_law {lv : Addr} {vs : List Value} {ns : List Int} (R : Room 300 A) (B : Bs w h₀) (k₀ : h₀.StaysIn s.heap) (hl : s.heap.IsList lv vs.toArray) (hi : IntsAre vs ns) (hz : vs.length < 1000) :
    wpAny (model PW w) A (call (.ref 341) [.ref lv]) (Ret s [] fun r _ => r = .bool true) NoE s := by
  refine en341 R B k₀ [] (fun p hp => nomatch hp) ?_
  intro g L h₁ tk SS hg kg kg' k₁ R'
  have gl : g.IsList lv vs.toArray := let ⟨o, e, r⟩ := hl; ⟨o, kg _ _ (fun q => nomatch q) e, r⟩
  have n0 : ∀ {b : Addr}, g.get? b = none → h₀.get? b = none := fun {b} e => by
    cases q : h₀.get? b with
    | none => rfl
    | some o => rw [hg _ _ q] at e; cases e
  refine x_asg ?_ (by rfl)
  repeat (first | tbr_iter "zst" | tbr_iter "zl341")
  refine u_sym SS ?_
  intro a2 h2 tk2 ta S2 k2
  repeat (first | tbr_iter "zst" | tbr_iter "zl341")
  refine u_sym S2 ?_
  intro a3 h3 tk3 tb S3 k3
  repeat (first | tbr_iter "zst" | tbr_iter "zl341")
  refine u_one S3 ?_
  intro a4 h4 tk4 tc S4 k4
  repeat (first | tbr_iter "zst" | tbr_iter "zl341")
  refine u_list S4 (by simp) ?_
  intro a5 h5 tk5 l5 e5 S5 k5
  repeat (first | tbr_iter "zst" | tbr_iter "zl341")
  refine u_tree S5 R' (by omega) B hg l5 (.cons (tb.mono (k4.trans k5)) (.cons (tc.mono k5) .nil)) (by simp) ?_
  intro r6 h6 tk6 t6 S6 k6
  repeat (first | tbr_iter "zst" | tbr_iter "zl341")
  refine u_list S6 (by simp) ?_
  intro a7 h7 tk7 l7 e7 S7 k7
  repeat (first | tbr_iter "zst" | tbr_iter "zl341")
  refine u_tree S7 R' (by omega) B hg l7 (.cons (ta.mono (k3.trans (k4.trans (k5.trans (k6.trans k7))))) (.cons (t6.mono k7) .nil)) (by simp) ?_
  intro lp h8 tk8 t8 S8 k8
  refine so341_loop S8 ?_
  intro h9 tk9 S9 k9
  replace t8 : TreeAt h9 lp loopT := t8.mono (TupKeep.of_low S8 k9)
  refine x_cons ?_
  refine r_for ?_ (by intro x; with_unfolding_all rfl)
  repeat (first | tbr_iter "zst" | tbr_iter "zl341" | tbr_iter "zcb")
  have gl9 : h9.IsList lv vs.toArray := let ⟨o, e, r⟩ := gl; ⟨o, S9.F.keep _ _ e, r⟩
  refine m_len gl9 (by omega) ?_
  intro t10 tk10
  repeat (first | tbr_iter "zst" | tbr_iter "zl341" | tbr_iter "zcb")
  refine m_min R'.1 ?_
  intro c11 t11 h11 tk11 e11 le11 k11
  have S11 := S9.keeps k11
  repeat (first | tbr_iter "zst" | tbr_iter "zl341" | tbr_iter "zcb")
  refine m_max R'.1 ?_
  intro c12 t12 h12 tk12 e12 le12 k12
  have S12 := S11.keeps k12
  repeat (first | tbr_iter "zst" | tbr_iter "zl341" | tbr_iter "zcb")
  refine m_range ?_
  intro h13 rg tk13 t1 t2 t3 hr k13
  have S13 := S12.keeps k13
  obtain ⟨kn, rfl⟩ : ∃ kn : Nat, c12 = (kn : Int) := ⟨c12.toNat, by omega⟩
  have hkn : kn ≤ 3 := by omega
  have t13 : TreeAt h13 lp loopT := t8.mono ((TupKeep.of_stays k11).trans ((TupKeep.of_stays k12).trans (TupKeep.of_stays k13)))
  refine ⟨h13, tk13, [], kn, _, rfl, IterOf.range R'.1 hr (by omega), fun I hI => ?_⟩
  have IL : I ≠ L := fun q => S13.low (q ▸ hI)
  have Ig : g.get? I = none := by
    cases q : g.get? I with
    | none => rfl
    | some o => have := S13.F.keep _ _ q; rw [hI] at this; cases this
  refine ⟨fun i h => ∃ o1 o2 o3 o4 o5, St w g L (V341 (some (.ref lv)) (some lp) o1 o2 o3 o4 o5) [] h ∧ TreeAt h lp loopT, fun h4 k4 => ⟨_, _, _, _, _, S13.keeps k4, t13.mono (TupKeep.of_stays k4)⟩, ?_, ?_, ?_⟩
  · rintro i h h' ⟨o1, o2, o3, o4, o5, J, jt⟩ nt k
    exact ⟨o1, o2, o3, o4, o5, S13.offm (X := [I]) (fun i hi => by rw [List.mem_singleton.mp hi]; exact hI) J rfl k, jt.mono (TupKeep.of_but nt k)⟩
  · rintro i v' h14 tk14 hik ⟨ti, rfl⟩ ⟨o1, o2, o3, o4, o5, J, jt⟩ hI14
    refine so341_k J ?_
    intro h15 tk15 S15 k15
    replace jt := jt.mono (TupKeep.of_low J k15)
    refine x_asg ?_ (by with_unfolding_all rfl)
    repeat (first | tbr_iter "zst" | tbr_iter "zl341")
    have gl15 : h15.IsList lv vs.toArray := let ⟨o, e, r⟩ := gl; ⟨o, S15.F.keep _ _ e, r⟩
    refine u_pure S15 (sp_spring (R'.le (by decide)) B (fun b o e => S15.F.keep b o (hg b o e)) gl15 hi (by omega) (by omega)) ?_
    rintro r h16 tk16 k16 S16' ⟨sp, rfl, nsp, xsp⟩
    have osp := S15.offL nsp
    have S16 := S16'.add xsp osp.1 osp.2
    have hsp := n0 osp.2
    replace jt := jt.mono (TupKeep.of_stays k16)
    refine so341_spring S16 ?_
    intro h17 tk17 S17 k17
    replace jt := jt.mono (TupKeep.of_low S16 k17)
    refine x_asg ?_ (by with_unfolding_all rfl)
    repeat (first | tbr_iter "zst" | tbr_iter "zl341")
    refine u_drop S17 R' (by omega) B hg hsp (by decide) (by decide) ?_
    intro c18 t18 h18 tk18 hc18 S18 k18 j18
    replace jt := jt.mono k18
    repeat (first | tbr_iter "zst" | tbr_iter "zl341")
    refine u_some (drawn_all c18 (by omega)) S18 R' (by omega) B hg hsp rfl (m := 3) rfl (by omega) ?_
    intro a19 h19 tk19 vs19 ts19 n19 es19 hn19 hl19 hw19 ht19 x19 S19 kk19 k19
    replace jt := jt.mono kk19
    repeat (first | tbr_iter "zst" | tbr_iter "zl341")
    refine r_newList ?_ (by exact Nat.le_of_ble_eq_true rfl)
    intro h20 b20 k20 _ e20
    have S20 := S19.keeps k20
    replace jt := jt.mono (TupKeep.of_stays k20)
    obtain ⟨oo, eoo, nn, rfl⟩ := x19
    repeat (first | tbr_iter "zst" | tbr_iter "zl341")
    refine l_add (k20 _ _ eoo) e20 (by simp; omega) ?_
    intro c21 h21 tk21 l21 k21
    obtain ⟨oI, eI⟩ := hI14
    have Isp : I ≠ sp := fun q => by
      have := k15 _ _ IL eI
      rw [q, show h15.get? sp = none from nsp] at this; cases this
    have eI21 : h21.get? I = some oI := k21 _ _ (k20 _ _ (k19 _ _ (fun q => Isp (List.mem_singleton.mp q)) (j18 _ _ (fun q => Isp (List.mem_singleton.mp q)) (k17 _ _ IL (k16 _ _ (k15 _ _ IL eI))))))
    have S21 := (S20.keeps k21).add (P := isO oI) ⟨oI, eI21, rfl⟩ IL Ig
    replace jt := jt.mono (TupKeep.of_stays k21)
    repeat (first | tbr_iter "zst" | tbr_iter "zl341")
    refine u_tree S21 R' (by omega) B hg l21 ((ht19.mono ((TupKeep.of_stays k20).trans (TupKeep.of_stays k21))).append (.cons jt .nil)) (by rw [List.length_append]; simp; omega) ?_
    intro tv h22 tk22 tt22 S22 k22
    replace jt := jt.mono k22
    have hwk : Wk (n19 + 2 + 1) (.node (S "block") (ts19 ++ [loopT])) (es19 ++ []) := .plain (by decide) (hw19.append (.one loopT_wk))
    have hnn : n19 + 2 + 1 ≤ 279 := by
      have : lvl c18 ≤ 92 := by
        match c18, hc18 with
        | 0, _ => decide
        | 1, _ => decide
        | 2, _ => decide
        | 3, _ => decide
      have : 3 * lvl c18 ≤ 276 := by omega
      omega
    generalize T.node (S "block") (ts19 ++ [loopT]) = tT at tt22 hwk
    generalize es19 ++ [] = es at hwk
    generalize n19 + 2 + 1 = nT at hwk hnn
    refine so341_tree S22 ?_
    intro h23 tk23 S23 k23
    replace jt := jt.mono (TupKeep.of_low S22 k23)
    replace tt22 := tt22.mono (TupKeep.of_low S22 k23)
    have S23' : St w g L _ [(I, isO oI)] h23 := S23.sub fun p hp => by rw [List.mem_singleton.mp hp]; exact .head _
    refine x_asg ?_ (by with_unfolding_all rfl)
    repeat (first | tbr_iter "zst" | tbr_iter "zl341")
    refine r_newList ?_ (by exact Nat.le_of_ble_eq_true rfl)
    intro h24 b0 k24 eb0 e24
    repeat (first | tbr_iter "zst" | tbr_iter "zl341")
    refine r_newList ?_ (by exact Nat.le_of_ble_eq_true rfl)
    intro h25 b1 k25 eb1 e25
    repeat (first | tbr_iter "zst" | tbr_iter "zl341")
    refine r_newList ?_ (by exact Nat.le_of_ble_eq_true rfl)
    intro h26 b2 k26 eb2 e26
    repeat (first | tbr_iter "zst" | tbr_iter "zl341")
    refine r_newTuple ?_ (by exact Nat.le_of_ble_eq_true rfl)
    intro h27 f k27 _ e27
    have nb0 : h23.get? b0 = none := eb0 ▸ noneAt
    have nb1 : h24.get? b1 = none := eb1 ▸ noneAt
    have nb2 : h25.get? b2 = none := eb2 ▸ noneAt
    have N3 : Ne3 b0 b1 b2 := ⟨(fun q => by rw [← q, e24] at nb1; cases nb1), (fun q => by rw [← q, k25 _ _ e24] at nb2; cases nb2), (fun q => by rw [← q, e25] at nb2; cases nb2)⟩
    have z0 := S23'.offL nb0
    have z1 := (S23'.keeps k24).offL nb1
    have z2 := ((S23'.keeps k24).keeps k25).offL nb2
    have I0 : I ≠ b0 := fun q => by obtain ⟨o, e, _⟩ := (S23'.N _ (.head _)).1; rw [← q, show h23.get? I = some o from e] at nb0; cases nb0
    have I1 : I ≠ b1 := fun q => by obtain ⟨o, e, _⟩ := ((S23'.keeps k24).N _ (.head _)).1; rw [← q, show h24.get? I = some o from e] at nb1; cases nb1
    have I2 : I ≠ b2 := fun q => by obtain ⟨o, e, _⟩ := (((S23'.keeps k24).keeps k25).N _ (.head _)).1; rw [← q, show h25.get? I = some o from e] at nb2; cases nb2
    have I3 : I ∉ [b0, b1, b2] := fun q => by
      rcases List.mem_cons.mp q with e | q
      · exact I0 e
      · rcases List.mem_cons.mp q with e | q
        · exact I1 e
        · exact I2 (List.mem_singleton.mp q)
    have S27' := ((((((S23'.keeps k24).keeps k25).keeps k26).keeps k27).add (P := isStrs []) ⟨_, k27 _ _ e26, [], 0, .nil, rfl⟩ z2.1 z2.2).add (P := isStrs []) ⟨_, k27 _ _ (k26 _ _ e25), [], 0, .nil, rfl⟩ z1.1 z1.2).add (P := isStrs []) ⟨_, k27 _ _ (k26 _ _ (k25 _ _ e24)), [], 0, .nil, rfl⟩ z0.1 z0.2
    have S27 : St w g L _ ([(I, isO oI)] ++ L3 b0 b1 b2 ([], [], [])) h27 := S27'.sub fun p hp => by
      rcases List.mem_cons.mp hp with rfl | hp
      · exact .tail _ (.tail _ (.tail _ (.head _)))
      · exact List.mem_append_left [(I, isO oI)] (show p ∈ L3 b0 b1 b2 ([], [], []) from hp)
    clear S27'
    have kk : h23.StaysIn h27 := fun b o e => k27 _ _ (k26 _ _ (k25 _ _ (k24 _ _ e)))
    replace jt := jt.mono (TupKeep.of_stays kk)
    replace tt22 := tt22.mono (TupKeep.of_stays kk)
    have f27 : IsTup h27 f [.ref b0, .ref b1, .ref b2].toArray := ⟨_, e27, rfl, _, rfl⟩
    repeat (first | tbr_iter "zst" | tbr_iter "zl341")
    refine so341_lists S27 ?_
    intro h28 tk28 S28 k28
    have kt28 := TupKeep.of_low S27 k28
    replace jt := jt.mono kt28
    replace tt22 := tt22.mono kt28
    have f28 := kt28.tup f27
    have G0 : Gds ([], [], []) := ⟨Gd.nil, Gd.nil, Gd.nil⟩
    repeat (first | tbr_iter "zst" | tbr_iter "zl341")
    have H28 : ∀ p ∈ L3 b0 b1 b2 ([], [], []), Has h28 p ∧ h₀.get? p.1 = none := fun p hp => let z := S28.N p (.tail _ hp); ⟨z.1, n0 z.2.2⟩
    refine ⟨S28.kin, r_use (walk_all nT (R'.le (by omega)) B (fun b o e => S28.F.keep b o (hg b o e)) tt22 hwk f28 H28 N3 G0 (by omega)) ?_⟩
    rintro r h29 tk29 k29 x29
    have S29 := St.call3g (pre := [(I, isO oI)]) S28 (fun p hp => by rw [List.mem_singleton.mp hp]; exact I3) k29 x29
    have kt29 : TupKeep h28 h29 := TupKeep.of_but (noTup_L3 fun p hp => (H28 p hp).1) k29
    replace jt := jt.mono kt29
    replace tt22 := tt22.mono kt29
    have f29 := kt29.tup f28
    clear x29 k29
    have G : Gds (run es ([], [], [])) := Gds.run G0 hwk.ok
    generalize hls : run es ([], [], []) = ls at *
    -- told
    refine x_asg ?_ (by with_unfolding_all rfl)
    repeat (first | tbr_iter "zst" | tbr_iter "zl341" | (with_reducible refine Call_ ?_ (by with_unfolding_all rfl)))
    refine callWith_K0 S29.kin (kp167 _) ?_
    refine u_names (R'.le (by decide)) B (fun b o e => S29.F.keep b o (hg b o e)) ?_
    intro tx dt t0 t1 t2 h30 tk30 k30 hT hTd nT nTd M3 hL
    have S30' := (((((S29.keeps k30).add (hL _ (.tail _ (.tail _ (.head _)))).1 (S29.offL (hL _ (.tail _ (.tail _ (.head _)))).2).1 (S29.offL (hL _ (.tail _ (.tail _ (.head _)))).2).2).add (hL _ (.tail _ (.head _))).1 (S29.offL (hL _ (.tail _ (.head _))).2).1 (S29.offL (hL _ (.tail _ (.head _))).2).2).add (hL _ (.head _)).1 (S29.offL (hL _ (.head _)).2).1 (S29.offL (hL _ (.head _)).2).2).add hTd (S29.offL nTd).1 (S29.offL nTd).2).add hT (S29.offL nT).1 (S29.offL nT).2
    have S30 : St w g L _ ([(tx, isInst 167 dt), (dt, isFields (flds "assigned" "locals" "globals" t0 t1 t2)), (I, isO oI), (b0, isStrs ls.1), (b1, isStrs ls.2.1), (b2, isStrs ls.2.2)] ++ L3 t0 t1 t2 ([], [], [])) h30 := S30'.sub fun q hq => by
      simp only [L3, List.cons_append, List.nil_append, List.mem_cons, List.not_mem_nil, or_false] at hq ⊢
      rcases hq with e | e | e | e | e | e | e | e | e
      · exact .inl e
      · exact .inr (.inl e)
      · exact .inr (.inr (.inr (.inr (.inr (.inl e)))))
      · exact .inr (.inr (.inr (.inr (.inr (.inr (.inl e))))))
      · exact .inr (.inr (.inr (.inr (.inr (.inr (.inr (.inl e)))))))
      · exact .inr (.inr (.inr (.inr (.inr (.inr (.inr (.inr e)))))))
      · exact .inr (.inr (.inl e))
      · exact .inr (.inr (.inr (.inl e)))
      · exact .inr (.inr (.inr (.inr (.inl e))))
    have old : ∀ {a : Addr} {P : OP}, Has h29 (a, P) → a ∉ [t0, t1, t2] := fun {a P} ⟨o, e, _⟩ q => by
      have z : ∀ {b}, h29.get? b = none → a ≠ b := fun {b} n q => by rw [← q, show h29.get? a = some o from e] at n; cases n
      rcases List.mem_cons.mp q with e | q
      · exact z (hL _ (.head _)).2 e
      · rcases List.mem_cons.mp q with e | q
        · exact z (hL _ (.tail _ (.head _))).2 e
        · exact z (hL _ (.tail _ (.tail _ (.head _)))).2 (List.mem_singleton.mp q)
    have tls : ∀ {a : Addr} {P : OP}, Has h30 (a, P) → (∀ o, P o → o.cls ≠ .type "list") → a ∉ [t0, t1, t2] := fun {a P} x np q => by
      have z : ∀ {b ls}, Has h30 (b, isStrs ls) → a ≠ b := fun {b ls} y => ne_has x y fun o p r => np o p (is_cls o r)
      rcases List.mem_cons.mp q with e | q
      · exact z (hL _ (.head _)).1 e
      · rcases List.mem_cons.mp q with e | q
        · exact z (hL _ (.tail _ (.head _))).1 e
        · exact z (hL _ (.tail _ (.tail _ (.head _)))).1 (List.mem_singleton.mp q)
    have apart : ∀ q ∈ ([(tx, isInst 167 dt), (dt, isFields (flds "assigned" "locals" "globals" t0 t1 t2)), (I, isO oI), (b0, isStrs ls.1), (b1, isStrs ls.2.1), (b2, isStrs ls.2.2)] : Led), q.1 ∉ [t0, t1, t2] := fun q hq => by
      simp only [List.mem_cons, List.not_mem_nil, or_false] at hq
      rcases hq with rfl | rfl | rfl | rfl | rfl | rfl
      · exact tls hT fun o p c => c_rt (ii_cls _ p) c
      · exact tls hTd fun o p c => c_ld c (if_cls _ p)
      · exact old (S29.N _ (.head _)).1
      · exact old (S29.N _ (.tail _ (.head _))).1
      · exact old (S29.N _ (.tail _ (.tail _ (.head _)))).1
      · exact old (S29.N _ (.tail _ (.tail _ (.tail _ (.head _))))).1
    clear S30'
    refine so341_told S30 ?_
    intro h31 tk31 S31 k31
    have kt31 := (TupKeep.of_stays k30).trans (TupKeep.of_low S30 k31)
    replace jt := jt.mono kt31
    replace tt22 := tt22.mono kt31
    have f31 := kt31.tup f29
    repeat (first | tbr_iter "zst" | tbr_iter "zl341" | tbr_iter "zcb")
    refine u_meth S31 (S31.N _ (.head _)).1 (S31.N _ (.tail _ (.head _))).1 (pg_look _) (ms_look _) (if_look _) rfl ?_
    refine callWith_put S31.kin (kp150 _) (by with_unfolding_all rfl) (by with_unfolding_all rfl) ?_
    repeat (first | tbr_iter "zst" | tbr_iter "zl341")
    have H31 : ∀ p ∈ L3 t0 t1 t2 ([], [], []), Has h31 p ∧ h₀.get? p.1 = none := fun p hp => let z := S31.N p (.tail _ (.tail _ (.tail _ (.tail _ (.tail _ (.tail _ hp)))))); ⟨z.1, n0 z.2.2⟩
    refine ⟨S31.kin, r_use (sp_look (R'.le (by decide)) B (fun b o e => S31.F.keep b o (hg b o e)) tt22 hwk ⟨dt, (S31.N _ (.head _)).1, (S31.N _ (.tail _ (.head _))).1⟩ H31 M3 G0 (by omega)) ?_⟩
    rw [hls]
    rintro r h32 tk32 k32 x32
    have S32 := St.call3g (pre := [(tx, isInst 167 dt), (dt, isFields (flds "assigned" "locals" "globals" t0 t1 t2)), (I, isO oI), (b0, isStrs ls.1), (b1, isStrs ls.2.1), (b2, isStrs ls.2.2)]) S31 apart k32 x32
    have kt32 : TupKeep h31 h32 := TupKeep.of_but (noTup_L3 fun p hp => (H31 p hp).1) k32
    replace jt := jt.mono kt32
    replace tt22 := tt22.mono kt32
    have f32 := kt32.tup f31
    clear x32 k32 apart tls old H31
    repeat (first | tbr_iter "zst" | tbr_iter "zl341" | tbr_iter "zcb")
    have hxi := (S32.N _ (.head _)).1
    have hxf := (S32.N _ (.tail _ (.head _))).1
    refine u_get S32 hxi hxf (ga167_assigned _) (hd167 _) (fa167_assigned _) rfl rfl rfl ?_
    intro tk33
    repeat (first | tbr_iter "zst" | tbr_iter "zl341" | tbr_iter "zcb")
    refine u_get S32 hxi hxf (ga167_locals _) (hd167 _) (fa167_locals _) rfl rfl rfl ?_
    intro tk34
    repeat (first | tbr_iter "zst" | tbr_iter "zl341" | tbr_iter "zcb")
    refine u_get S32 hxi hxf (ga167_globals _) (hd167 _) (fa167_globals _) rfl rfl rfl ?_
    intro tk35
    repeat (first | tbr_iter "zst" | tbr_iter "zl341" | tbr_iter "zcb")
    refine r_newTuple ?_ (by exact Nat.le_of_ble_eq_true rfl)
    intro h33 u33 k33 _ e33
    have S33 := S32.keeps k33
    replace jt := jt.mono (TupKeep.of_stays k33)
    replace tt22 := tt22.mono (TupKeep.of_stays k33)
    have f33 := f32.keeps k33
    repeat (first | tbr_iter "zst" | tbr_iter "zl341")
    have HB : ∀ {h : Heap} {l : LM}, St w g L l ([(tx, isInst 167 dt), (dt, isFields (flds "assigned" "locals" "globals" t0 t1 t2)), (I, isO oI), (b0, isStrs ls.1), (b1, isStrs ls.2.1), (b2, isStrs ls.2.2)] ++ L3 t0 t1 t2 ls) h → ∀ p ∈ L3 b0 b1 b2 ls, Has h p := fun {h l} SJ p hp => (SJ.N p (List.mem_append_left _ (.tail _ (.tail _ (.tail _ hp))))).1
    refine c_ne_tup3 R' ⟨_, e33, rfl, _, rfl⟩ f33 (fun p hp => (S33.N p (List.mem_append_right _ hp)).1) (HB S33) ?_
    repeat (first | tbr_iter "zst" | tbr_iter "zl341")
    refine ite_neg (fun q => nomatch q) ?_
    repeat (first | tbr_iter "zst")
    have S34 : St w g L (V341 (some (.ref lv)) (some lp) (some (.int (i : Int) ti)) (some (.ref sp)) (some tv) (some (.ref f)) (some (.ref tx))) ((I, isO oI) :: L3 b0 b1 b2 ls) h33 := S33.sub fun q hq => by
      rcases List.mem_cons.mp hq with rfl | hq
      · exact .tail _ (.tail _ (.head _))
      · exact List.mem_append_left _ (.tail _ (.tail _ (.tail _ hq)))
    clear S33 S32 HB
    repeat (first | tbr_iter "zst" | tbr_iter "zl341" | tbr_iter "zcb")
    refine r_listcomp (cl := []) (x := S "some") (by with_unfolding_all rfl) (by decide +kernel) (by with_unfolding_all rfl) (by decide +kernel) (by with_unfolding_all rfl) ?_ (by intro x; with_unfolding_all rfl)
    repeat (first | tbr_iter "zst" | tbr_iter "zl341")
    refine u_pure S34 (sp_bnames (R'.le (by decide)) B (fun b o e => S34.F.keep b o (hg b o e)) tt22 hwk (by omega)) ?_
    rw [hls]
    rintro r h35 tk36 k35 S35' ⟨c, q0, q1, q2, rfl, hc, Q3, hQ⟩
    have S35 := S35'.addAll (nw := L3 q0 q1 q2 ls) fun p hp => ⟨(hQ p hp).1, S34.offL (hQ p hp).2⟩
    replace jt := jt.mono (TupKeep.of_stays k35)
    replace tt22 := tt22.mono (TupKeep.of_stays k35)
    have f35 := f33.keeps k35
    repeat (first | tbr_iter "zst")
    refine ⟨h35, tk36, _, _, _, rfl, IterOf.tup R'.1 hc, Nat.le_of_ble_eq_true rfl, fun I' D C hI' hD hC hCD => ?_⟩
    have hX : ∀ {X : List Addr}, (∀ a ∈ X, a ∈ [C, D, I']) → ∀ i ∈ X, h35.get? i = none := fun k i hi => by
      rcases List.mem_cons.mp (k i hi) with rfl | q
      · exact hC
      · rcases List.mem_cons.mp q with rfl | q
        · exact hD
        · rw [List.mem_singleton.mp q]; exact hI'
    refine ⟨fun m ys h => St w g L (V341 (some (.ref lv)) (some lp) (some (.int (i : Int) ti)) (some (.ref sp)) (some tv) (some (.ref f)) (some (.ref tx))) (L3 q0 q1 q2 ls ++ (I, isO oI) :: L3 b0 b1 b2 ls) h ∧ IsTup h f [.ref b0, .ref b1, .ref b2].toArray ∧ TreeAt h lp loopT ∧ TreeAt h tv tT ∧
      ∃ rs : List Addr, ys = rs.map Value.ref ∧ rs.length = m ∧ ∀ (j : Nat) (r : Addr) (l : List Str), rs[j]? = some r → [ls.1, ls.2.1, ls.2.2][j]? = some l → Has h (r, isStrs l) ∧ r ∉ [C, D, I'],
      fun h4 k4 => ⟨S35.keeps k4, f35.keeps k4, jt.mono (TupKeep.of_stays k4), tt22.mono (TupKeep.of_stays k4), [], rfl, rfl, fun j r l h => nomatch h⟩, ?_, ?_, ?_⟩
    · rintro m ys h h' X ⟨J, jf, jl, jv, rs, e1, e2, e3⟩ hx nt k
      have tk := TupKeep.of_but nt k
      exact ⟨S35.offm (X := X) (hX hx) J rfl k, tk.tup jf, jl.mono tk, jv.mono tk, rs, e1, e2, fun j r l hr hl => ⟨let ⟨o, e, q⟩ := (e3 j r l hr hl).1; ⟨o, k _ _ (fun q => (e3 j r l hr hl).2 (hx _ q)) e, q⟩, (e3 j r l hr hl).2⟩⟩
    · rintro m v ys h tk mm hm hv ⟨J, jf, jl, jv, rs, e1, e2, e3⟩ hns hmm hy ⟨oI', eI'⟩ ⟨oD, eD⟩
      subst e1
      obtain ⟨q, l, rfl, hl, hqm⟩ : ∃ (q : Addr) (l : List Str), v = .ref q ∧ [ls.1, ls.2.1, ls.2.2][m]? = some l ∧ (q, isStrs l) ∈ L3 q0 q1 q2 ls := by
        match m, hm, hv with
        | 0, _, hv => cases hv; exact ⟨_, _, rfl, rfl, .head _⟩
        | 1, _, hv => cases hv; exact ⟨_, _, rfl, rfl, .tail _ (.head _)⟩
        | 2, _, hv => cases hv; exact ⟨_, _, rfl, rfl, .tail _ (.tail _ (.head _))⟩
      have len : l.length ≤ 5 := by
        match m, hl with
        | 0, hl => cases hl; exact G.1.len
        | 1, hl => cases hl; exact G.2.1.len
        | 2, hl => cases hl; exact G.2.2.len
      refine forIn_nil_ ?_
      refine if_true_ ?_
      obtain ⟨_, _, _, _, Tp⟩ := J.B.top
      refine Call_ ?_ (by with_unfolding_all rfl)
      refine Name_function_global (by with_unfolding_all rfl) (by kernel_rfl) (loadGlobal_builtin (Tp.g.keeps J.F.keep) (mg_none_of J.B.kin Tp.g (b_list _)) (Tp.b.keeps J.F.keep) ((Tp.builtins (S "list") (by decide)).trans (show bootBuiltins (S "list") = some (.type "list") by kernel_rfl)) ?_) (by kernel_rfl)
      refine PySem.Pv.callWith_type1 ?_ (by with_unfolding_all rfl) (by with_unfolding_all rfl)
      repeat (first | tbr_iter "zst")
      refine wpAny_Name (wpAny_loadName_local (by with_unfolding_all rfl) (by with_unfolding_all rfl) hns hmm ?_) (by decide)
      repeat (first | tbr_iter "zst")
      refine l_copy (J.N _ (List.mem_append_left _ hqm)).1 (by omega) ?_
      intro b h' tk' kb eb xb
      have nbn : h.get? b = none := eb ▸ noneAt
      refine ⟨h', tk', rfl, fun b _ o e => kb b o e, J.keeps kb, jf.keeps kb, jl.mono (TupKeep.of_stays kb), jv.mono (TupKeep.of_stays kb), rs ++ [b], by rw [List.map_append]; rfl, by rw [List.length_append, e2]; rfl, fun j r l' hr hl' => ?_⟩
      by_cases jm : j < rs.length
      · rw [List.getElem?_append_left jm] at hr
        exact ⟨(e3 j r l' hr hl').1.stays kb, (e3 j r l' hr hl').2⟩
      · rw [List.getElem?_append_right (by omega)] at hr
        have j0 : j - rs.length = 0 := by
          cases z : j - rs.length with
          | zero => rfl
          | succ n => rw [z] at hr; cases hr
        rw [j0] at hr
        cases hr
        have jm' : j = m := by omega
        subst jm'
        rw [hl] at hl'
        cases hl'
        refine ⟨xb, fun q => ?_⟩
        rcases List.mem_cons.mp q with e | q
        · obtain ⟨o, _, _, e', _⟩ := hns
          rw [← e, nbn] at e'; cases e'
        · rcases List.mem_cons.mp q with e | q
          · rw [← e, nbn] at eD; cases eD
          · rw [← List.mem_singleton.mp q, nbn] at eI'; cases eI'
    · rintro h36 tk37 ys ⟨J, jf, jl, jv, rs, e1, e2, e3⟩ hD
      subst e1
      have eRs : ∃ r0 r1 r2, rs = [r0, r1, r2] := by
        match rs, e2 with
        | [r0, r1, r2], _ => exact ⟨r0, r1, r2, rfl⟩
      obtain ⟨r0, r1, r2, rfl⟩ := eRs
      repeat (first | tbr_iter "zst" | tbr_iter "zl341" | tbr_iter "zcb")
      refine t_tuple hD.isPList ?_ (by exact Nat.le_of_ble_eq_true rfl)
      intro h37 u37 k37 _ e37
      have S37 := J.keeps k37
      replace jf := jf.keeps k37
      replace jl := jl.mono (TupKeep.of_stays k37)
      replace jv := jv.mono (TupKeep.of_stays k37)
      repeat (first | tbr_iter "zst" | tbr_iter "zl341" | tbr_iter "zcb")
      refine c_ne_tup3 (a0 := r0) (a1 := r1) (a2 := r2) (ls := ls) R' ⟨_, e37, rfl, _, rfl⟩ jf (fun p hp => ?_) (fun p hp => (S37.N p (List.mem_append_right _ (.tail _ hp))).1) ?_
      · simp only [L3, List.mem_cons, List.not_mem_nil, or_false] at hp
        rcases hp with rfl | rfl | rfl
        · exact (e3 0 _ _ rfl rfl).1.stays k37
        · exact (e3 1 _ _ rfl rfl).1.stays k37
        · exact (e3 2 _ _ rfl rfl).1.stays k37
      repeat (first | tbr_iter "zst" | tbr_iter "zl341")
      refine ite_neg (fun q => nomatch q) ?_
      repeat (first | tbr_iter "zst" | tbr_iter "zl341")
      refine u_pure S37 (sp_right (R'.le (by decide)) B (fun b o e => S37.F.keep b o (hg b o e)) jv hwk (by omega) jf (by rw [hls]; exact fun p hp => (S37.N p (List.mem_append_right _ (.tail _ hp))).1)) ?_
      rintro r h38 tk38 k38 S38 rfl
      repeat (first | tbr_iter "zst")
      refine ite_neg (fun q => nomatch q) ?_
      repeat (first | tbr_iter "zst")
      refine forK_next (fun b hb o e => ?_) ⟨_, _, _, _, _, S38.sub (fun _ h => nomatch h), jl.mono (TupKeep.of_stays k38)⟩
      rw [List.mem_singleton.mp hb] at e ⊢
      rw [eI] at e; cases e
      obtain ⟨o', e', z⟩ := (S38.N (I, isO oI) (List.mem_append_right _ (.head _))).1
      rw [show o' = oI from z] at e'; exact e'
  · rintro h14 tk14 ⟨o1, o2, o3, o4, o5, J, jt⟩
    repeat (first | tbr_iter "zst" | tbr_iter "zl341")
    exact r_ret J kg rfl
end

theorem room0 : Room 300 callerA := ⟨rfl, by decide, by decide, [], rfl⟩
theorem walk : WalkO QQ LOOSE (XL QQ []) (fun w h => (KK w.params).In h) RW.toRowW lawD [] fun f vs => PySem.call f vs := by
  intro w s₀ s₁ mg mb G Y fa o pm cd doc dV kV ho hd hcd hD hmg hg args vals as hpre hlay hrd hwl hlo
  have T := G.T
  have TR := topRead_of T
  have B : Bs w s₁.heap := ⟨Y, ⟨_, _, _, _, TR⟩, T.seer (by decide +kernel)⟩
  have e : mg (S "law") = some (.ref 341) := mg_of Y TR.g (g_law w.params)
  have hf : fa = 341 := by
    have e2 : mg (S "law") = some (.ref fa) := hmg
    rw [e] at e2; cases e2; rfl
  subst hf
  wrow_args hpre hlay hrd hwl hlo
  rename_i ns a1 a2 a3 a4 a5 b1 b2 lv vs b3 hL ra wl r0 hI hr hc ht
  have hlen : vs.length < 1000 := by
    have := hI.length
    omega
  refine wpAny_mono (sp_law (s := s₁) room0 B (fun _ _ e => e) hL hI hlen) (fun v s' h => ?_) (fun _ _ x => x.elim)
  obtain ⟨h', tk, rfl, k, rfl⟩ := h
  refine GoodW.toG ⟨.inl ⟨.bool true, .bool true, [], rfl, fun _ => rfl, .bool _, ?_, fun _ => ⟨List.nodup_nil, fun _ h => nomatch h⟩⟩, fun b o e => k b o (fun q => nomatch q) e, rfl, hg⟩
  wrow_post


end Mine
theorem PySem.Challenge.cw_pq0696_01_holds : PySem.Challenge.rw_pq0696_01.Holds := by
  exact Mine.head Mine.walk
