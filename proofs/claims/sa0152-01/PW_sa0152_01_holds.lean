import PyProof.Rows.All
import Wide.All
import OpenK.AllK
import Wide.FinOn
import PySem.Challenge.RW_sa0152_01
open PySem PySem.W PyProof.Rows
set_option Elab.async false
set_option maxRecDepth 100000
namespace Mine
/-! the heap behind the top, as far as the call reaches: printed by a program of mine; the functions point into the row -/
noncomputable def sAt (n : Nat) : Stmt := (PySem.Challenge.pw_sa0152_01.main.body.drop n).headD (.Pass ⟨0, 0, 0, 0⟩)
noncomputable def mAt (n k : Nat) : Stmt := match sAt n with
  | .ClassDef _ _ _ b _ _ _ _ _ _ _ => (b.drop k).headD (.Pass ⟨0, 0, 0, 0⟩)
  | s => s
noncomputable def sA : Stmt → Arguments
  | .FunctionDef _ a _ _ _ _ _ _ _ _ => a
  | _ => { posonlyargs := [], args := [], vararg := none, kwonlyargs := [], kw_defaults := [], kwarg := none, defaults := [] }
noncomputable def sB : Stmt → List Stmt
  | .FunctionDef _ _ b _ _ _ _ _ _ _ => b
  | _ => []
noncomputable def sS : Stmt → Scope
  | .FunctionDef _ _ _ _ _ _ s _ _ _ => s
  | _ => { kind := .function, names := [], isGenerator := false, isCoroutine := false, more := [] }
noncomputable def vs (x : Str) (t : Tok) : Value := .str x t
noncomputable def vi (i : Int) (t : Tok) : Value := .int i t
noncomputable def oT (l : List Value) : Obj := { cls := .type "tuple", dict := none, data := .seq l.toArray 0, slots := #[] }
noncomputable def oC (l : List Value) : Obj := { cls := .type "code", dict := none, data := .fields l.toArray, slots := #[] }
noncomputable def oD (l : List DictEntry) (n : Nat) : Obj := { cls := .type "dict", dict := none, data := .dict l.toArray n, slots := #[] }
noncomputable def oF (s : Stmt) (n q : Str) (m c : Value) : Obj := { cls := .type "function", dict := none, data := .func { name := n, qualname := q, params := sA s, body := .stmts (sB s), scope := sS s, globals := 3, closure := [], defaults := .none, kwdefaults := .none, doc := .none, pyModule := m, annotations := none, code := c }, slots := #[] }
noncomputable def de (P : Params) (x : Str) (t : Tok) (v : Value) : DictEntry := ⟨PyData.keyHash P x, .str x t, v⟩
noncomputable def Kf (P : Params) : Frag := [
  (2, (.mk .none none (.dict #[] 0) #[])),
  (3, oD [de P "__name__" 165 (vs "law_sa0152_01" 827), de P "__doc__" 166 (.none), de P "__package__" 167 (.none), de P "__loader__" 168 (.builtin "__main__.__loader__#opaque"), de P "__spec__" 169 (.none), de P "__annotations__" 170 (.ref 6), de P "__builtins__" 171 (.ref 4), de P "__file__" 173 (vs "/claim/cut.py" 172), de P "__cached__" 174 (.none), de P "_wall" 193 (.ref 21), de P "F_DOT" 195 (vi 0 194), de P "F_MINUS1" 197 (vi 12 196), de P "F_PLUS" 199 (vi 14 198), de P "F_CALL1" 201 (vi 24 200), de P "F_CALL2" 203 (vi 25 202), de P "variables" 212 (.ref 28), de P "variables_of" 223 (.ref 35), de P "occurrences" 233 (.ref 42), de P "CON" 235 (vi 4 234), de P "INT" 237 (vi 5 236), de P "constant_cell" 246 (.ref 49), de P "CodeState" 322 (.ref 101), de P "Matcher" 381 (.ref 143), de P "Builder" 453 (.ref 190), de P "InPlace" 555 (.ref 265), de P "KernelClause" 592 (.ref 284), de P "goal_terms" 600 (.ref 295), de P "goal_special" 607 (.ref 302), de P "VarInfo" 647 (.ref 319), de P "ClausePlan" 723 (.ref 375), de P "chunk_numbers" 733 (.ref 386), de P "Survey" 788 (.ref 417), de P "kind_of" 795 (.ref 428), de P "slot_order" 806 (.ref 435), de P "classify" 826 (.ref 442), de P "_law_digit" 839 (.ref 449), de P "_law_term" 850 (.ref 456), de P "_law_names" 859 (.ref 463), de P "_law_strangers" 868 (.ref 470), de P "_law_begun" 879 (.ref 477), de P "_law_itself_right" 893 (.ref 484), de P "law" 899 (.ref 489)] 42),
  (15, oT []),
  (17, oT [vs "k" 190]),
  (18, oT []),
  (20, oC [vs "_wall" 187, vs "_wall" 188, vs "/claim/cut.py" 189, vi 1 0, vi 1 0, vi 0 0, vi 0 0, vi 3 0, (.ref 15), (.bool true), vi 181 0, (.ref 16), .none, (.ref 17), (.ref 18), (.ref 19), vi 191 0, vi 1 0, vs "/claim/cut.py" 192]),
  (21, oF (sAt 0) "_wall" "_wall" (vs "__main__" 164) (.ref 20)),
  (22, oT []),
  (24, oT [vs "term" 209]),
  (25, oT []),
  (27, oC [vs "variables" 206, vs "variables" 207, vs "/claim/cut.py" 208, vi 10 0, vi 1 0, vi 0 0, vi 0 0, vi 3 0, (.ref 22), (.bool true), vi 181 0, (.ref 23), .none, (.ref 24), (.ref 25), (.ref 26), vi 210 0, vi 10 0, vs "/claim/cut.py" 211]),
  (28, oF (sAt 7) "variables" "variables" (vs "clausemill.terms" 204) (.ref 27)),
  (29, oT []),
  (31, oT [vs "terms" 216, vs "seen" 217, vs "result" 218, vs "todo" 219, vs "term" 220]),
  (32, oT []),
  (34, oC [vs "variables_of" 213, vs "variables_of" 214, vs "/claim/cut.py" 215, vi 12 0, vi 1 0, vi 0 0, vi 0 0, vi 3 0, (.ref 29), (.bool true), vi 181 0, (.ref 30), .none, (.ref 31), (.ref 32), (.ref 33), vi 221 0, vi 12 0, vs "/claim/cut.py" 222]),
  (35, oF (sAt 8) "variables_of" "variables_of" (vs "clausemill.terms" 204) (.ref 34)),
  (36, oT []),
  (38, oT [vs "term" 227, vs "counts" 228, vs "todo" 229, vs "part" 230]),
  (39, oT []),
  (41, oC [vs "occurrences" 224, vs "occurrences" 225, vs "/claim/cut.py" 226, vi 25 0, vi 1 0, vi 0 0, vi 0 0, vi 3 0, (.ref 36), (.bool true), vi 181 0, (.ref 37), .none, (.ref 38), (.ref 39), (.ref 40), vi 231 0, vi 25 0, vs "/claim/cut.py" 232]),
  (42, oF (sAt 9) "occurrences" "occurrences" (vs "clausemill.terms" 204) (.ref 41)),
  (43, oT []),
  (45, oT [vs "term" 243]),
  (46, oT []),
  (48, oC [vs "constant_cell" 240, vs "constant_cell" 241, vs "/claim/cut.py" 242, vi 38 0, vi 1 0, vi 0 0, vi 0 0, vi 3 0, (.ref 43), (.bool true), vi 181 0, (.ref 44), .none, (.ref 45), (.ref 46), (.ref 47), vi 244 0, vi 38 0, vs "/claim/cut.py" 245]),
  (49, oF (sAt 13) "constant_cell" "constant_cell" (vs "clausemill.abstract" 238) (.ref 48)),
  (57, oT []),
  (59, oT [vs "self" 262, vs "kernel" 263, vs "plan" 264]),
  (60, oT []),
  (62, oC [vs "__init__" 259, vs "CodeState.__init__" 260, vs "/claim/cut.py" 261, vi 44 0, vi 3 0, vi 0 0, vi 0 0, vi 3 0, (.ref 57), (.bool true), vi 181 0, (.ref 58), .none, (.ref 59), (.ref 60), (.ref 61), vi 265 0, vi 44 0, vs "/claim/cut.py" 266]),
  (63, oF (mAt 14 0) "__init__" "CodeState.__init__" (vs "clausemill.abstract" 238) (.ref 62)),
  (64, oT []),
  (66, oT [vs "self" 271, vs "instruction" 272]),
  (67, oT []),
  (69, oC [vs "emit" 268, vs "CodeState.emit" 269, vs "/claim/cut.py" 270, vi 52 0, vi 2 0, vi 0 0, vi 0 0, vi 3 0, (.ref 64), (.bool true), vi 181 0, (.ref 65), .none, (.ref 66), (.ref 67), (.ref 68), vi 273 0, vi 52 0, vs "/claim/cut.py" 274]),
  (70, oF (mAt 14 1) "emit" "CodeState.emit" (vs "clausemill.abstract" 238) (.ref 69)),
  (71, oT []),
  (73, oT [vs "self" 279, vs "number" 280]),
  (74, oT []),
  (76, oC [vs "new_temporary" 276, vs "CodeState.new_temporary" 277, vs "/claim/cut.py" 278, vi 55 0, vi 1 0, vi 0 0, vi 0 0, vi 3 0, (.ref 71), (.bool true), vi 181 0, (.ref 72), .none, (.ref 73), (.ref 74), (.ref 75), vi 281 0, vi 55 0, vs "/claim/cut.py" 282]),
  (77, oF (mAt 14 2) "new_temporary" "CodeState.new_temporary" (vs "clausemill.abstract" 238) (.ref 76)),
  (78, oT []),
  (80, oT [vs "self" 287, vs "k" 288]),
  (81, oT []),
  (83, oC [vs "is_void" 284, vs "CodeState.is_void" 285, vs "/claim/cut.py" 286, vi 60 0, vi 2 0, vi 0 0, vi 0 0, vi 3 0, (.ref 78), (.bool true), vi 181 0, (.ref 79), .none, (.ref 80), (.ref 81), (.ref 82), vi 289 0, vi 60 0, vs "/claim/cut.py" 290]),
  (84, oF (mAt 14 3) "is_void" "CodeState.is_void" (vs "clausemill.abstract" 238) (.ref 83)),
  (85, oT []),
  (87, oT [vs "self" 295, vs "k" 296]),
  (88, oT []),
  (90, oC [vs "is_permanent" 292, vs "CodeState.is_permanent" 293, vs "/claim/cut.py" 294, vi 63 0, vi 2 0, vi 0 0, vi 0 0, vi 3 0, (.ref 85), (.bool true), vi 181 0, (.ref 86), .none, (.ref 87), (.ref 88), (.ref 89), vi 297 0, vi 63 0, vs "/claim/cut.py" 298]),
  (91, oF (mAt 14 4) "is_permanent" "CodeState.is_permanent" (vs "clausemill.abstract" 238) (.ref 90)),
  (92, oT []),
  (94, oT [vs "self" 303, vs "k" 304, vs "info" 305]),
  (95, oT []),
  (97, oC [vs "place" 300, vs "CodeState.place" 301, vs "/claim/cut.py" 302, vi 66 0, vi 2 0, vi 0 0, vi 0 0, vi 3 0, (.ref 92), (.bool true), vi 181 0, (.ref 93), .none, (.ref 94), (.ref 95), (.ref 96), vi 306 0, vi 66 0, vs "/claim/cut.py" 307]),
  (98, oF (mAt 14 5) "place" "CodeState.place" (vs "clausemill.abstract" 238) (.ref 97)),
  (99, oT [vs "code" 309, vs "kernel" 310, vs "local" 311, vs "next_temporary" 312, vs "plan" 313, vs "seen" 314]),
  (100, oD [de P "__module__" 254 (vs "clausemill.abstract" 238), de P "__firstlineno__" 258 (vi 42 257), de P "__init__" 267 (.ref 63), de P "emit" 275 (.ref 70), de P "new_temporary" 283 (.ref 77), de P "is_void" 291 (.ref 84), de P "is_permanent" 299 (.ref 91), de P "place" 308 (.ref 98), de P "__static_attributes__" 315 (.ref 99), de P "__dict__" 317 (.ref 102), de P "__weakref__" 319 (.ref 103), de P "__doc__" 320 (.none)] 4),
  (101, (.mk (.type "type") none (.cls (.mk "CodeState" [(.type "object")] [(.ref 101), (.type "object")] 100 "CodeState" true [] [(.ref 143)] false none false)) #[none, none, (some (vs "CodeState" 247)), (some (vs "CodeState" 255)), (some (.builtin "object.__new__")), (some (.bool true))])),
  (102, (.mk (.type "getset_descriptor") none (.fields #[vs "__dict__" 316, (.ref 101), (.builtin "function.__dict__"), (.builtin "function.__dict__#set")]) #[])),
  (103, (.mk (.type "getset_descriptor") none (.fields #[vs "__weakref__" 318, (.ref 101), (.builtin "ExceptionGroup.__weakref__"), .none]) #[])),
  (106, oT [(.ref 101)]),
  (113, oT []),
  (115, oT [vs "self" 338, vs "term" 339, vs "source" 340, vs "k" 341]),
  (116, oT []),
  (118, oC [vs "head_argument" 335, vs "Matcher.head_argument" 336, vs "/claim/cut.py" 337, vi 73 0, vi 3 0, vi 0 0, vi 0 0, vi 3 0, (.ref 113), (.bool true), vi 181 0, (.ref 114), .none, (.ref 115), (.ref 116), (.ref 117), vi 342 0, vi 73 0, vs "/claim/cut.py" 343]),
  (119, oF (mAt 15 0) "head_argument" "Matcher.head_argument" (vs "clausemill.abstract" 238) (.ref 118)),
  (120, oT []),
  (122, oT [vs "self" 348, vs "term" 349, vs "source" 350, vs "waiting" 351, vs "node" 352, vs "register" 353]),
  (123, oT []),
  (125, oC [vs "match" 345, vs "Matcher.match" 346, vs "/claim/cut.py" 347, vi 89 0, vi 3 0, vi 0 0, vi 0 0, vi 3 0, (.ref 120), (.bool true), vi 181 0, (.ref 121), .none, (.ref 122), (.ref 123), (.ref 124), vi 354 0, vi 89 0, vs "/claim/cut.py" 355]),
  (126, oF (mAt 15 1) "match" "Matcher.match" (vs "clausemill.abstract" 238) (.ref 125)),
  (127, oT []),
  (129, oT [vs "self" 360, vs "args" 361, vs "waiting" 362, vs "nested" 363, vs "voids" 364, vs "arg" 365, vs "temporary" 366]),
  (130, oT []),
  (132, oC [vs "match_arguments" 357, vs "Matcher.match_arguments" 358, vs "/claim/cut.py" 359, vi 99 0, vi 3 0, vi 0 0, vi 0 0, vi 3 0, (.ref 127), (.bool true), vi 181 0, (.ref 128), .none, (.ref 129), (.ref 130), (.ref 131), vi 367 0, vi 99 0, vs "/claim/cut.py" 368]),
  (133, oF (mAt 15 2) "match_arguments" "Matcher.match_arguments" (vs "clausemill.abstract" 238) (.ref 132)),
  (134, oT []),
  (136, oT [vs "self" 373, vs "k" 374]),
  (137, oT []),
  (139, oC [vs "match_variable" 370, vs "Matcher.match_variable" 371, vs "/claim/cut.py" 372, vi 122 0, vi 2 0, vi 0 0, vi 0 0, vi 3 0, (.ref 134), (.bool true), vi 181 0, (.ref 135), .none, (.ref 136), (.ref 137), (.ref 138), vi 375 0, vi 122 0, vs "/claim/cut.py" 376]),
  (140, oF (mAt 15 3) "match_variable" "Matcher.match_variable" (vs "clausemill.abstract" 238) (.ref 139)),
  (141, oT []),
  (142, oD [de P "__module__" 330 (vs "clausemill.abstract" 238), de P "__firstlineno__" 334 (vi 71 333), de P "head_argument" 344 (.ref 119), de P "match" 356 (.ref 126), de P "match_arguments" 369 (.ref 133), de P "match_variable" 377 (.ref 140), de P "__static_attributes__" 378 (.ref 141), de P "__doc__" 379 (.none)] 2),
  (143, (.mk (.type "type") none (.cls (.mk "Matcher" [(.ref 101)] [(.ref 143), (.ref 101), (.type "object")] 142 "Matcher" true [] [(.ref 190)] false none false)) #[(some (.ref 106)), none, (some (vs "Matcher" 323)), (some (vs "Matcher" 331)), (some (.builtin "object.__new__")), (some (.bool true))])),
  (146, oT [(.ref 143)]),
  (153, oT []),
  (155, oT [vs "self" 397, vs "term" 398, vs "target" 399, vs "work" 400, vs "built" 401, vs "ready" 402, vs "node" 403, vs "pieces" 404, vs "register" 405]),
  (156, oT []),
  (158, oC [vs "build" 394, vs "Builder.build" 395, vs "/claim/cut.py" 396, vi 132 0, vi 3 0, vi 0 0, vi 0 0, vi 3 0, (.ref 153), (.bool true), vi 181 0, (.ref 154), .none, (.ref 155), (.ref 156), (.ref 157), vi 406 0, vi 132 0, vs "/claim/cut.py" 407]),
  (159, oF (mAt 16 0) "build" "Builder.build" (vs "clausemill.abstract" 238) (.ref 158)),
  (160, oT []),
  (162, oT [vs "self" 412, vs "args" 413, vs "work" 414, vs "last" 415, vs "at" 416]),
  (163, oT []),
  (165, oC [vs "wait_for_nested" 409, vs "Builder.wait_for_nested" 410, vs "/claim/cut.py" 411, vi 153 0, vi 3 0, vi 0 0, vi 0 0, vi 3 0, (.ref 160), (.bool true), vi 181 0, (.ref 161), .none, (.ref 162), (.ref 163), (.ref 164), vi 417 0, vi 153 0, vs "/claim/cut.py" 418]),
  (166, oF (mAt 16 1) "wait_for_nested" "Builder.wait_for_nested" (vs "clausemill.abstract" 238) (.ref 165)),
  (167, oT []),
  (169, oT [vs "self" 423, vs "args" 424, vs "built" 425, vs "pieces" 426, vs "last" 427, vs "at" 428]),
  (170, oT []),
  (172, oC [vs "take_nested" 420, vs "Builder.take_nested" 421, vs "/claim/cut.py" 422, vi 163 0, vi 3 0, vi 0 0, vi 0 0, vi 3 0, (.ref 167), (.bool true), vi 181 0, (.ref 168), .none, (.ref 169), (.ref 170), (.ref 171), vi 429 0, vi 163 0, vs "/claim/cut.py" 430]),
  (173, oF (mAt 16 2) "take_nested" "Builder.take_nested" (vs "clausemill.abstract" 238) (.ref 172)),
  (174, oT []),
  (176, oT [vs "self" 435, vs "pieces" 436, vs "voids" 437, vs "piece" 438]),
  (177, oT []),
  (179, oC [vs "set_arguments" 432, vs "Builder.set_arguments" 433, vs "/claim/cut.py" 434, vi 175 0, vi 2 0, vi 0 0, vi 0 0, vi 3 0, (.ref 174), (.bool true), vi 181 0, (.ref 175), .none, (.ref 176), (.ref 177), (.ref 178), vi 439 0, vi 175 0, vs "/claim/cut.py" 440]),
  (180, oF (mAt 16 3) "set_arguments" "Builder.set_arguments" (vs "clausemill.abstract" 238) (.ref 179)),
  (181, oT []),
  (183, oT [vs "self" 445, vs "k" 446]),
  (184, oT []),
  (186, oC [vs "set_variable" 442, vs "Builder.set_variable" 443, vs "/claim/cut.py" 444, vi 193 0, vi 2 0, vi 0 0, vi 0 0, vi 3 0, (.ref 181), (.bool true), vi 181 0, (.ref 182), .none, (.ref 183), (.ref 184), (.ref 185), vi 447 0, vi 193 0, vs "/claim/cut.py" 448]),
  (187, oF (mAt 16 4) "set_variable" "Builder.set_variable" (vs "clausemill.abstract" 238) (.ref 186)),
  (188, oT []),
  (189, oD [de P "__module__" 389 (vs "clausemill.abstract" 238), de P "__firstlineno__" 393 (vi 130 392), de P "build" 408 (.ref 159), de P "wait_for_nested" 419 (.ref 166), de P "take_nested" 431 (.ref 173), de P "set_arguments" 441 (.ref 180), de P "set_variable" 449 (.ref 187), de P "__static_attributes__" 450 (.ref 188), de P "__doc__" 451 (.none)] 2),
  (190, (.mk (.type "type") none (.cls (.mk "Builder" [(.ref 143)] [(.ref 190), (.ref 143), (.ref 101), (.type "object")] 189 "Builder" true [] [(.ref 265)] false none false)) #[(some (.ref 146)), none, (some (vs "Builder" 382)), (some (vs "Builder" 390)), (some (.builtin "object.__new__")), (some (.bool true))])),
  (193, oT [(.ref 190)]),
  (200, oT []),
  (202, oT [vs "self" 469, vs "left" 470, vs "right" 471, vs "pairs" 472, vs "one" 473, vs "other" 474, vs "at" 475]),
  (203, oT []),
  (205, oC [vs "unify_goal" 466, vs "InPlace.unify_goal" 467, vs "/claim/cut.py" 468, vi 205 0, vi 3 0, vi 0 0, vi 0 0, vi 3 0, (.ref 200), (.bool true), vi 181 0, (.ref 201), .none, (.ref 202), (.ref 203), (.ref 204), vi 476 0, vi 205 0, vs "/claim/cut.py" 477]),
  (206, oF (mAt 17 0) "unify_goal" "InPlace.unify_goal" (vs "clausemill.abstract" 238) (.ref 205)),
  (207, oT []),
  (209, oT [vs "self" 482, vs "k" 483, vs "term" 484, vs "register" 485]),
  (210, oT []),
  (212, oC [vs "unify_with_variable" 479, vs "InPlace.unify_with_variable" 480, vs "/claim/cut.py" 481, vi 221 0, vi 3 0, vi 0 0, vi 0 0, vi 3 0, (.ref 207), (.bool true), vi 181 0, (.ref 208), .none, (.ref 209), (.ref 210), (.ref 211), vi 486 0, vi 221 0, vs "/claim/cut.py" 487]),
  (213, oF (mAt 17 1) "unify_with_variable" "InPlace.unify_with_variable" (vs "clausemill.abstract" 238) (.ref 212)),
  (214, oT []),
  (216, oT [vs "self" 492, vs "j" 493, vs "k" 494]),
  (217, oT []),
  (219, oC [vs "unify_variables" 489, vs "InPlace.unify_variables" 490, vs "/claim/cut.py" 491, vi 244 0, vi 3 0, vi 0 0, vi 0 0, vi 3 0, (.ref 214), (.bool true), vi 181 0, (.ref 215), .none, (.ref 216), (.ref 217), (.ref 218), vi 495 0, vi 244 0, vs "/claim/cut.py" 496]),
  (220, oF (mAt 17 2) "unify_variables" "InPlace.unify_variables" (vs "clausemill.abstract" 238) (.ref 219)),
  (221, oT []),
  (223, oT [vs "self" 501, vs "k" 502, vs "register" 503]),
  (224, oT []),
  (226, oC [vs "introduce" 498, vs "InPlace.introduce" 499, vs "/claim/cut.py" 500, vi 264 0, vi 2 0, vi 0 0, vi 0 0, vi 3 0, (.ref 221), (.bool true), vi 181 0, (.ref 222), .none, (.ref 223), (.ref 224), (.ref 225), vi 504 0, vi 264 0, vs "/claim/cut.py" 505]),
  (227, oF (mAt 17 3) "introduce" "InPlace.introduce" (vs "clausemill.abstract" 238) (.ref 226)),
  (228, oT []),
  (230, oT [vs "self" 510, vs "k" 511, vs "old" 512, vs "register" 513]),
  (231, oT []),
  (233, oC [vs "alias" 507, vs "InPlace.alias" 508, vs "/claim/cut.py" 509, vi 271 0, vi 3 0, vi 0 0, vi 0 0, vi 3 0, (.ref 228), (.bool true), vi 181 0, (.ref 229), .none, (.ref 230), (.ref 231), (.ref 232), vi 514 0, vi 271 0, vs "/claim/cut.py" 515]),
  (234, oF (mAt 17 4) "alias" "InPlace.alias" (vs "clausemill.abstract" 238) (.ref 233)),
  (235, oT []),
  (237, oT [vs "self" 520, vs "k" 521]),
  (238, oT []),
  (240, oC [vs "fresh_register" 517, vs "InPlace.fresh_register" 518, vs "/claim/cut.py" 519, vi 287 0, vi 2 0, vi 0 0, vi 0 0, vi 3 0, (.ref 235), (.bool true), vi 181 0, (.ref 236), .none, (.ref 237), (.ref 238), (.ref 239), vi 522 0, vi 287 0, vs "/claim/cut.py" 523]),
  (241, oF (mAt 17 5) "fresh_register" "InPlace.fresh_register" (vs "clausemill.abstract" 238) (.ref 240)),
  (242, oT []),
  (244, oT [vs "self" 528, vs "k" 529, vs "register" 530]),
  (245, oT []),
  (247, oC [vs "settle" 525, vs "InPlace.settle" 526, vs "/claim/cut.py" 527, vi 292 0, vi 3 0, vi 0 0, vi 0 0, vi 3 0, (.ref 242), (.bool true), vi 181 0, (.ref 243), .none, (.ref 244), (.ref 245), (.ref 246), vi 531 0, vi 292 0, vs "/claim/cut.py" 532]),
  (248, oF (mAt 17 6) "settle" "InPlace.settle" (vs "clausemill.abstract" 238) (.ref 247)),
  (249, oT []),
  (251, oT [vs "self" 537, vs "k" 538, vs "register" 539]),
  (252, oT []),
  (254, oC [vs "register_of" 534, vs "InPlace.register_of" 535, vs "/claim/cut.py" 536, vi 297 0, vi 2 0, vi 0 0, vi 0 0, vi 3 0, (.ref 249), (.bool true), vi 181 0, (.ref 250), .none, (.ref 251), (.ref 252), (.ref 253), vi 540 0, vi 297 0, vs "/claim/cut.py" 541]),
  (255, oF (mAt 17 7) "register_of" "InPlace.register_of" (vs "clausemill.abstract" 238) (.ref 254)),
  (256, oT []),
  (258, oT [vs "self" 546, vs "k" 547, vs "register" 548]),
  (259, oT []),
  (261, oC [vs "load_slot" 543, vs "InPlace.load_slot" 544, vs "/claim/cut.py" 545, vi 304 0, vi 3 0, vi 0 0, vi 0 0, vi 3 0, (.ref 256), (.bool true), vi 181 0, (.ref 257), .none, (.ref 258), (.ref 259), (.ref 260), vi 549 0, vi 304 0, vs "/claim/cut.py" 550]),
  (262, oF (mAt 17 8) "load_slot" "InPlace.load_slot" (vs "clausemill.abstract" 238) (.ref 261)),
  (263, oT []),
  (264, oD [de P "__module__" 461 (vs "clausemill.abstract" 238), de P "__firstlineno__" 465 (vi 203 464), de P "unify_goal" 478 (.ref 206), de P "unify_with_variable" 488 (.ref 213), de P "unify_variables" 497 (.ref 220), de P "introduce" 506 (.ref 227), de P "alias" 516 (.ref 234), de P "fresh_register" 524 (.ref 241), de P "settle" 533 (.ref 248), de P "register_of" 542 (.ref 255), de P "load_slot" 551 (.ref 262), de P "__static_attributes__" 552 (.ref 263), de P "__doc__" 553 (.none)] 2),
  (265, (.mk (.type "type") none (.cls (.mk "InPlace" [(.ref 190)] [(.ref 265), (.ref 190), (.ref 143), (.ref 101), (.type "object")] 264 "InPlace" true [] [] false none false)) #[(some (.ref 193)), none, (some (vs "InPlace" 454)), (some (vs "InPlace" 462)), (some (.builtin "object.__new__")), (some (.bool true))])),
  (275, oT []),
  (277, oT [vs "self" 573, vs "functor" 574, vs "args" 575, vs "goals" 576, vs "count" 577]),
  (278, oT []),
  (280, oC [vs "__init__" 570, vs "KernelClause.__init__" 571, vs "/claim/cut.py" 572, vi 312 0, vi 5 0, vi 0 0, vi 0 0, vi 3 0, (.ref 275), (.bool true), vi 181 0, (.ref 276), .none, (.ref 277), (.ref 278), (.ref 279), vi 578 0, vi 312 0, vs "/claim/cut.py" 579]),
  (281, oF (mAt 19 0) "__init__" "KernelClause.__init__" (vs "clausemill.kernel" 556) (.ref 280)),
  (282, oT [vs "args" 581, vs "count" 582, vs "functor" 583, vs "goals" 584]),
  (283, oD [de P "__module__" 565 (vs "clausemill.kernel" 556), de P "__firstlineno__" 569 (vi 310 568), de P "__init__" 580 (.ref 281), de P "__static_attributes__" 585 (.ref 282), de P "__dict__" 587 (.ref 285), de P "__weakref__" 589 (.ref 286), de P "__doc__" 590 (.none)] 4),
  (284, (.mk (.type "type") none (.cls (.mk "KernelClause" [(.type "object")] [(.ref 284), (.type "object")] 283 "KernelClause" true [] [] false none false)) #[none, none, (some (vs "KernelClause" 558)), (some (vs "KernelClause" 566)), (some (.builtin "object.__new__")), (some (.bool true))])),
  (285, (.mk (.type "getset_descriptor") none (.fields #[vs "__dict__" 586, (.ref 284), (.builtin "function.__dict__"), (.builtin "function.__dict__#set")]) #[])),
  (286, (.mk (.type "getset_descriptor") none (.fields #[vs "__weakref__" 588, (.ref 284), (.builtin "ExceptionGroup.__weakref__"), .none]) #[])),
  (289, oT []),
  (291, oT [vs "goal" 596, vs "kind" 597]),
  (292, oT []),
  (294, oC [vs "goal_terms" 593, vs "goal_terms" 594, vs "/claim/cut.py" 595, vi 317 0, vi 1 0, vi 0 0, vi 0 0, vi 3 0, (.ref 289), (.bool true), vi 181 0, (.ref 290), .none, (.ref 291), (.ref 292), (.ref 293), vi 598 0, vi 317 0, vs "/claim/cut.py" 599]),
  (295, oF (sAt 20) "goal_terms" "goal_terms" (vs "clausemill.kernel" 556) (.ref 294)),
  (296, oT []),
  (298, oT [vs "goal" 604]),
  (299, oT []),
  (301, oC [vs "goal_special" 601, vs "goal_special" 602, vs "/claim/cut.py" 603, vi 324 0, vi 1 0, vi 0 0, vi 0 0, vi 3 0, (.ref 296), (.bool true), vi 181 0, (.ref 297), .none, (.ref 298), (.ref 299), (.ref 300), vi 605 0, vi 324 0, vs "/claim/cut.py" 606]),
  (302, oF (sAt 21) "goal_special" "goal_special" (vs "clausemill.kernel" 556) (.ref 301)),
  (310, oT []),
  (312, oT [vs "self" 625, vs "k" 626, vs "first" 627]),
  (313, oT []),
  (315, oC [vs "__init__" 622, vs "VarInfo.__init__" 623, vs "/claim/cut.py" 624, vi 331 0, vi 3 0, vi 0 0, vi 0 0, vi 3 0, (.ref 310), (.bool true), vi 181 0, (.ref 311), .none, (.ref 312), (.ref 313), (.ref 314), vi 628 0, vi 331 0, vs "/claim/cut.py" 629]),
  (316, oF (mAt 23 0) "__init__" "VarInfo.__init__" (vs "clausemill.classify" 608) (.ref 315)),
  (317, oT [vs "count" 631, vs "first" 632, vs "first_chunk" 633, vs "kind" 634, vs "last_chunk" 635, vs "last_goal" 636, vs "slot" 637, vs "unsafe" 638, vs "var" 639]),
  (318, oD [de P "__module__" 617 (vs "clausemill.classify" 608), de P "__firstlineno__" 621 (vi 329 620), de P "__init__" 630 (.ref 316), de P "__static_attributes__" 640 (.ref 317), de P "__dict__" 642 (.ref 320), de P "__weakref__" 644 (.ref 321), de P "__doc__" 645 (.none)] 4),
  (319, (.mk (.type "type") none (.cls (.mk "VarInfo" [(.type "object")] [(.ref 319), (.type "object")] 318 "VarInfo" true [] [] false none false)) #[none, none, (some (vs "VarInfo" 610)), (some (vs "VarInfo" 618)), (some (.builtin "object.__new__")), (some (.bool true))])),
  (320, (.mk (.type "getset_descriptor") none (.fields #[vs "__dict__" 641, (.ref 319), (.builtin "function.__dict__"), (.builtin "function.__dict__#set")]) #[])),
  (321, (.mk (.type "getset_descriptor") none (.fields #[vs "__weakref__" 643, (.ref 319), (.builtin "ExceptionGroup.__weakref__"), .none]) #[])),
  (331, oT []),
  (333, oT [vs "self" 663, vs "infos" 664, vs "chunks" 665, vs "needs_env" 666, vs "env_size" 667, vs "live_after" 668]),
  (334, oT []),
  (336, oC [vs "__init__" 660, vs "ClausePlan.__init__" 661, vs "/claim/cut.py" 662, vi 343 0, vi 6 0, vi 0 0, vi 0 0, vi 3 0, (.ref 331), (.bool true), vi 181 0, (.ref 332), .none, (.ref 333), (.ref 334), (.ref 335), vi 669 0, vi 343 0, vs "/claim/cut.py" 670]),
  (337, oF (mAt 24 0) "__init__" "ClausePlan.__init__" (vs "clausemill.classify" 608) (.ref 336)),
  (338, oT []),
  (340, oT [vs "self" 675, vs "k" 676]),
  (341, oT []),
  (343, oC [vs "info" 672, vs "ClausePlan.info" 673, vs "/claim/cut.py" 674, vi 350 0, vi 2 0, vi 0 0, vi 0 0, vi 3 0, (.ref 338), (.bool true), vi 181 0, (.ref 339), .none, (.ref 340), (.ref 341), (.ref 342), vi 677 0, vi 350 0, vs "/claim/cut.py" 678]),
  (344, oF (mAt 24 1) "info" "ClausePlan.info" (vs "clausemill.classify" 608) (.ref 343)),
  (345, oT []),
  (347, oT [vs "self" 683, vs "k" 684]),
  (348, oT []),
  (350, oC [vs "is_perm" 680, vs "ClausePlan.is_perm" 681, vs "/claim/cut.py" 682, vi 353 0, vi 2 0, vi 0 0, vi 0 0, vi 3 0, (.ref 345), (.bool true), vi 181 0, (.ref 346), .none, (.ref 347), (.ref 348), (.ref 349), vi 685 0, vi 353 0, vs "/claim/cut.py" 686]),
  (351, oF (mAt 24 2) "is_perm" "ClausePlan.is_perm" (vs "clausemill.classify" 608) (.ref 350)),
  (352, oT []),
  (354, oT [vs "self" 691, vs "k" 692]),
  (355, oT []),
  (357, oC [vs "is_void" 688, vs "ClausePlan.is_void" 689, vs "/claim/cut.py" 690, vi 356 0, vi 2 0, vi 0 0, vi 0 0, vi 3 0, (.ref 352), (.bool true), vi 181 0, (.ref 353), .none, (.ref 354), (.ref 355), (.ref 356), vi 693 0, vi 356 0, vs "/claim/cut.py" 694]),
  (358, oF (mAt 24 3) "is_void" "ClausePlan.is_void" (vs "clausemill.classify" 608) (.ref 357)),
  (359, oT []),
  (361, oT [vs "self" 699]),
  (362, oT []),
  (364, oC [vs "perms" 696, vs "ClausePlan.perms" 697, vs "/claim/cut.py" 698, vi 359 0, vi 1 0, vi 0 0, vi 0 0, vi 3 0, (.ref 359), (.bool true), vi 181 0, (.ref 360), .none, (.ref 361), (.ref 362), (.ref 363), vi 700 0, vi 359 0, vs "/claim/cut.py" 701]),
  (365, oF (mAt 24 4) "perms" "ClausePlan.perms" (vs "clausemill.classify" 608) (.ref 364)),
  (366, oT []),
  (368, oT [vs "self" 706, vs "goal" 707]),
  (369, oT []),
  (371, oC [vs "dying_at" 703, vs "ClausePlan.dying_at" 704, vs "/claim/cut.py" 705, vi 362 0, vi 2 0, vi 0 0, vi 0 0, vi 3 0, (.ref 366), (.bool true), vi 181 0, (.ref 367), .none, (.ref 368), (.ref 369), (.ref 370), vi 708 0, vi 362 0, vs "/claim/cut.py" 709]),
  (372, oF (mAt 24 5) "dying_at" "ClausePlan.dying_at" (vs "clausemill.classify" 608) (.ref 371)),
  (373, oT [vs "chunks" 711, vs "env_size" 712, vs "infos" 713, vs "live_after" 714, vs "needs_env" 715]),
  (374, oD [de P "__module__" 655 (vs "clausemill.classify" 608), de P "__firstlineno__" 659 (vi 341 658), de P "__init__" 671 (.ref 337), de P "info" 679 (.ref 344), de P "is_perm" 687 (.ref 351), de P "is_void" 695 (.ref 358), de P "perms" 702 (.ref 365), de P "dying_at" 710 (.ref 372), de P "__static_attributes__" 716 (.ref 373), de P "__dict__" 718 (.ref 376), de P "__weakref__" 720 (.ref 377), de P "__doc__" 721 (.none)] 4),
  (375, (.mk (.type "type") none (.cls (.mk "ClausePlan" [(.type "object")] [(.ref 375), (.type "object")] 374 "ClausePlan" true [] [] false none false)) #[none, none, (some (vs "ClausePlan" 648)), (some (vs "ClausePlan" 656)), (some (.builtin "object.__new__")), (some (.bool true))])),
  (376, (.mk (.type "getset_descriptor") none (.fields #[vs "__dict__" 717, (.ref 375), (.builtin "function.__dict__"), (.builtin "function.__dict__#set")]) #[])),
  (377, (.mk (.type "getset_descriptor") none (.fields #[vs "__weakref__" 719, (.ref 375), (.builtin "ExceptionGroup.__weakref__"), .none]) #[])),
  (380, oT []),
  (382, oT [vs "goals" 727, vs "chunks" 728, vs "chunk" 729, vs "goal" 730]),
  (383, oT []),
  (385, oC [vs "chunk_numbers" 724, vs "chunk_numbers" 725, vs "/claim/cut.py" 726, vi 364 0, vi 1 0, vi 0 0, vi 0 0, vi 3 0, (.ref 380), (.bool true), vi 181 0, (.ref 381), .none, (.ref 382), (.ref 383), (.ref 384), vi 731 0, vi 364 0, vs "/claim/cut.py" 732]),
  (386, oF (sAt 25) "chunk_numbers" "chunk_numbers" (vs "clausemill.classify" 608) (.ref 385)),
  (394, oT []),
  (396, oT [vs "self" 749]),
  (397, oT []),
  (399, oC [vs "__init__" 746, vs "Survey.__init__" 747, vs "/claim/cut.py" 748, vi 374 0, vi 1 0, vi 0 0, vi 0 0, vi 3 0, (.ref 394), (.bool true), vi 181 0, (.ref 395), .none, (.ref 396), (.ref 397), (.ref 398), vi 750 0, vi 374 0, vs "/claim/cut.py" 751]),
  (400, oF (mAt 26 0) "__init__" "Survey.__init__" (vs "clausemill.classify" 608) (.ref 399)),
  (401, oT []),
  (403, oT [vs "self" 756, vs "k" 757, vs "first" 758, vs "goal" 759, vs "chunk" 760, vs "count" 761, vs "info" 762]),
  (404, oT []),
  (406, oC [vs "meet" 753, vs "Survey.meet" 754, vs "/claim/cut.py" 755, vi 377 0, vi 6 0, vi 0 0, vi 0 0, vi 3 0, (.ref 401), (.bool true), vi 181 0, (.ref 402), .none, (.ref 403), (.ref 404), (.ref 405), vi 763 0, vi 377 0, vs "/claim/cut.py" 764]),
  (407, oF (mAt 26 1) "meet" "Survey.meet" (vs "clausemill.classify" 608) (.ref 406)),
  (408, oT []),
  (410, oT [vs "self" 769, vs "terms" 770, vs "place" 771, vs "goal" 772, vs "chunk" 773, vs "term" 774, vs "counts" 775, vs "k" 776]),
  (411, oT []),
  (413, oC [vs "terms" 766, vs "Survey.terms" 767, vs "/claim/cut.py" 768, vi 386 0, vi 5 0, vi 0 0, vi 0 0, vi 3 0, (.ref 408), (.bool true), vi 181 0, (.ref 409), .none, (.ref 410), (.ref 411), (.ref 412), vi 777 0, vi 386 0, vs "/claim/cut.py" 778]),
  (414, oF (mAt 26 2) "terms" "Survey.terms" (vs "clausemill.classify" 608) (.ref 413)),
  (415, oT [vs "infos" 780]),
  (416, oD [de P "__module__" 741 (vs "clausemill.classify" 608), de P "__firstlineno__" 745 (vi 372 744), de P "__init__" 752 (.ref 400), de P "meet" 765 (.ref 407), de P "terms" 779 (.ref 414), de P "__static_attributes__" 781 (.ref 415), de P "__dict__" 783 (.ref 418), de P "__weakref__" 785 (.ref 419), de P "__doc__" 786 (.none)] 4),
  (417, (.mk (.type "type") none (.cls (.mk "Survey" [(.type "object")] [(.ref 417), (.type "object")] 416 "Survey" true [] [] false none false)) #[none, none, (some (vs "Survey" 734)), (some (vs "Survey" 742)), (some (.builtin "object.__new__")), (some (.bool true))])),
  (418, (.mk (.type "getset_descriptor") none (.fields #[vs "__dict__" 782, (.ref 417), (.builtin "function.__dict__"), (.builtin "function.__dict__#set")]) #[])),
  (419, (.mk (.type "getset_descriptor") none (.fields #[vs "__weakref__" 784, (.ref 417), (.builtin "ExceptionGroup.__weakref__"), .none]) #[])),
  (422, oT []),
  (424, oT [vs "info" 792]),
  (425, oT []),
  (427, oC [vs "kind_of" 789, vs "kind_of" 790, vs "/claim/cut.py" 791, vi 394 0, vi 1 0, vi 0 0, vi 0 0, vi 3 0, (.ref 422), (.bool true), vi 181 0, (.ref 423), .none, (.ref 424), (.ref 425), (.ref 426), vi 793 0, vi 394 0, vs "/claim/cut.py" 794]),
  (428, oF (sAt 27) "kind_of" "kind_of" (vs "clausemill.classify" 608) (.ref 427)),
  (429, oT []),
  (431, oT [vs "infos" 799, vs "order" 800, vs "k" 801, vs "info" 802, vs "at" 803]),
  (432, oT []),
  (434, oC [vs "slot_order" 796, vs "slot_order" 797, vs "/claim/cut.py" 798, vi 400 0, vi 1 0, vi 0 0, vi 0 0, vi 3 0, (.ref 429), (.bool true), vi 181 0, (.ref 430), .none, (.ref 431), (.ref 432), (.ref 433), vi 804 0, vi 400 0, vs "/claim/cut.py" 805]),
  (435, oF (sAt 28) "slot_order" "slot_order" (vs "clausemill.classify" 608) (.ref 434)),
  (436, oT []),
  (438, oT [vs "kernel" 810, vs "goals" 811, vs "chunks" 812, vs "survey" 813, vs "needs_env" 814, vs "at" 815, vs "goal" 816, vs "special" 817, vs "infos" 818, vs "k" 819, vs "order" 820, vs "info" 821, vs "live_after" 822, vs "live" 823]),
  (439, oT []),
  (441, oC [vs "classify" 807, vs "classify" 808, vs "/claim/cut.py" 809, vi 410 0, vi 1 0, vi 0 0, vi 0 0, vi 3 0, (.ref 436), (.bool true), vi 181 0, (.ref 437), .none, (.ref 438), (.ref 439), (.ref 440), vi 824 0, vi 410 0, vs "/claim/cut.py" 825]),
  (442, oF (sAt 29) "classify" "classify" (vs "clausemill.classify" 608) (.ref 441)),
  (443, oT []),
  (445, oT [vs "tape" 832, vs "limit" 833, vs "cell" 834, vs "figure" 835, vs "rest" 836]),
  (446, oT []),
  (448, oC [vs "_law_digit" 829, vs "_law_digit" 830, vs "/claim/cut.py" 831, vi 440 0, vi 2 0, vi 0 0, vi 0 0, vi 3 0, (.ref 443), (.bool true), vi 181 0, (.ref 444), .none, (.ref 445), (.ref 446), (.ref 447), vi 837 0, vi 440 0, vs "/claim/cut.py" 838]),
  (449, oF (sAt 31) "_law_digit" "_law_digit" (vs "law_sa0152_01" 827) (.ref 448)),
  (450, oT []),
  (452, oT [vs "tape" 843, vs "deep" 844, vs "way" 845, vs "one" 846, vs "two" 847]),
  (453, oT []),
  (455, oC [vs "_law_term" 840, vs "_law_term" 841, vs "/claim/cut.py" 842, vi 453 0, vi 2 0, vi 0 0, vi 0 0, vi 3 0, (.ref 450), (.bool true), vi 181 0, (.ref 451), .none, (.ref 452), (.ref 453), (.ref 454), vi 848 0, vi 453 0, vs "/claim/cut.py" 849]),
  (456, oF (sAt 32) "_law_term" "_law_term" (vs "law_sa0152_01" 827) (.ref 455)),
  (457, oT []),
  (459, oT [vs "part" 854, vs "found" 855, vs "inner" 856]),
  (460, oT []),
  (462, oC [vs "_law_names" 851, vs "_law_names" 852, vs "/claim/cut.py" 853, vi 466 0, vi 1 0, vi 0 0, vi 0 0, vi 3 0, (.ref 457), (.bool true), vi 181 0, (.ref 458), .none, (.ref 459), (.ref 460), (.ref 461), vi 857 0, vi 466 0, vs "/claim/cut.py" 858]),
  (463, oF (sAt 33) "_law_names" "_law_names" (vs "law_sa0152_01" 827) (.ref 462)),
  (464, oT []),
  (466, oT [vs "one" 863, vs "two" 864, vs "spot" 865]),
  (467, oT []),
  (469, oC [vs "_law_strangers" 860, vs "_law_strangers" 861, vs "/claim/cut.py" 862, vi 474 0, vi 2 0, vi 0 0, vi 0 0, vi 3 0, (.ref 464), (.bool true), vi 181 0, (.ref 465), .none, (.ref 466), (.ref 467), (.ref 468), vi 866 0, vi 474 0, vs "/claim/cut.py" 867]),
  (470, oF (sAt 34) "_law_strangers" "_law_strangers" (vs "law_sa0152_01" 827) (.ref 469)),
  (471, oT []),
  (473, oT [vs "clause_" 872, vs "plan" 873, vs "maker" 874, vs "number" 875, vs "part" 876]),
  (474, oT []),
  (476, oC [vs "_law_begun" 869, vs "_law_begun" 870, vs "/claim/cut.py" 871, vi 482 0, vi 2 0, vi 0 0, vi 0 0, vi 3 0, (.ref 471), (.bool true), vi 181 0, (.ref 472), .none, (.ref 473), (.ref 474), (.ref 475), vi 877 0, vi 482 0, vs "/claim/cut.py" 878]),
  (477, oF (sAt 35) "_law_begun" "_law_begun" (vs "law_sa0152_01" 827) (.ref 476)),
  (478, oT []),
  (480, oT [vs "maker" 883, vs "plan" 884, vs "part" 885, vs "due" 886, vs "fresh_number" 887, vs "met" 888, vs "k" 889, vs "lap" 890]),
  (481, oT []),
  (483, oC [vs "_law_itself_right" 880, vs "_law_itself_right" 881, vs "/claim/cut.py" 882, vi 489 0, vi 3 0, vi 0 0, vi 0 0, vi 3 0, (.ref 478), (.bool true), vi 181 0, (.ref 479), .none, (.ref 480), (.ref 481), (.ref 482), vi 891 0, vi 489 0, vs "/claim/cut.py" 892]),
  (484, oF (sAt 36) "_law_itself_right" "_law_itself_right" (vs "law_sa0152_01" 827) (.ref 483)),
  (485, oT []),
  (488, oC [vs "law" 894, vs "law" 895, vs "/claim/cut.py" 896, vi 508 0, vi 1 0, vi 0 0, vi 0 0, vi 3 0, (.ref 485), (.bool true), vi 181 0, (.ref 486), .none, .none, .none, (.ref 487), vi 897 0, vi 508 0, vs "/claim/cut.py" 898]),
  (489, oF (sAt 37) "law" "law" (vs "law_sa0152_01" 827) (.ref 488))]
noncomputable def addrs : List Nat := [2, 3, 15, 17, 18, 20, 21, 22, 24, 25, 27, 28, 29, 31, 32, 34, 35, 36, 38, 39, 41, 42, 43, 45, 46, 48, 49, 57, 59, 60, 62, 63, 64, 66, 67, 69, 70, 71, 73, 74, 76, 77, 78, 80, 81, 83, 84, 85, 87, 88, 90, 91, 92, 94, 95, 97, 98, 99, 100, 101, 102, 103, 106, 113, 115, 116, 118, 119, 120, 122, 123, 125, 126, 127, 129, 130, 132, 133, 134, 136, 137, 139, 140, 141, 142, 143, 146, 153, 155, 156, 158, 159, 160, 162, 163, 165, 166, 167, 169, 170, 172, 173, 174, 176, 177, 179, 180, 181, 183, 184, 186, 187, 188, 189, 190, 193, 200, 202, 203, 205, 206, 207, 209, 210, 212, 213, 214, 216, 217, 219, 220, 221, 223, 224, 226, 227, 228, 230, 231, 233, 234, 235, 237, 238, 240, 241, 242, 244, 245, 247, 248, 249, 251, 252, 254, 255, 256, 258, 259, 261, 262, 263, 264, 265, 275, 277, 278, 280, 281, 282, 283, 284, 285, 286, 289, 291, 292, 294, 295, 296, 298, 299, 301, 302, 310, 312, 313, 315, 316, 317, 318, 319, 320, 321, 331, 333, 334, 336, 337, 338, 340, 341, 343, 344, 345, 347, 348, 350, 351, 352, 354, 355, 357, 358, 359, 361, 362, 364, 365, 366, 368, 369, 371, 372, 373, 374, 375, 376, 377, 380, 382, 383, 385, 386, 394, 396, 397, 399, 400, 401, 403, 404, 406, 407, 408, 410, 411, 413, 414, 415, 416, 417, 418, 419, 422, 424, 425, 427, 428, 429, 431, 432, 434, 435, 436, 438, 439, 441, 442, 443, 445, 446, 448, 449, 450, 452, 453, 455, 456, 457, 459, 460, 462, 463, 464, 466, 467, 469, 470, 471, 473, 474, 476, 477, 478, 480, 481, 483, 484, 485, 488, 489]
end Mine
set_option Elab.async false
set_option linter.unusedVariables false
set_option maxRecDepth 100000
namespace Mine
open PySem PySem.W PySem.Calls PySem.Spec PyProof.Rows

/-! many words at once -/
theorem and3 {p1 p2 p3 c : Prop} (h : p1 ∧ p2 ∧ p3) (k : p1 → p2 → p3 → c) : c := k h.1 h.2.1 h.2.2
theorem and4 {p1 p2 p3 p4 c : Prop} (h : p1 ∧ p2 ∧ p3 ∧ p4) (k : p1 → p2 → p3 → p4 → c) : c := k h.1 h.2.1 h.2.2.1 h.2.2.2
theorem and5 {p1 p2 p3 p4 p5 c : Prop} (h : p1 ∧ p2 ∧ p3 ∧ p4 ∧ p5) (k : p1 → p2 → p3 → p4 → p5 → c) : c := k h.1 h.2.1 h.2.2.1 h.2.2.2.1 h.2.2.2.2
theorem and6 {p1 p2 p3 p4 p5 p6 c : Prop} (h : p1 ∧ p2 ∧ p3 ∧ p4 ∧ p5 ∧ p6) (k : p1 → p2 → p3 → p4 → p5 → p6 → c) : c := k h.1 h.2.1 h.2.2.1 h.2.2.2.1 h.2.2.2.2.1 h.2.2.2.2.2
theorem and7 {p1 p2 p3 p4 p5 p6 p7 c : Prop} (h : p1 ∧ p2 ∧ p3 ∧ p4 ∧ p5 ∧ p6 ∧ p7) (k : p1 → p2 → p3 → p4 → p5 → p6 → p7 → c) : c := k h.1 h.2.1 h.2.2.1 h.2.2.2.1 h.2.2.2.2.1 h.2.2.2.2.2.1 h.2.2.2.2.2.2
theorem and8 {p1 p2 p3 p4 p5 p6 p7 p8 c : Prop} (h : p1 ∧ p2 ∧ p3 ∧ p4 ∧ p5 ∧ p6 ∧ p7 ∧ p8) (k : p1 → p2 → p3 → p4 → p5 → p6 → p7 → p8 → c) : c := k h.1 h.2.1 h.2.2.1 h.2.2.2.1 h.2.2.2.2.1 h.2.2.2.2.2.1 h.2.2.2.2.2.2.1 h.2.2.2.2.2.2.2
theorem and9 {p1 p2 p3 p4 p5 p6 p7 p8 p9 c : Prop} (h : p1 ∧ p2 ∧ p3 ∧ p4 ∧ p5 ∧ p6 ∧ p7 ∧ p8 ∧ p9) (k : p1 → p2 → p3 → p4 → p5 → p6 → p7 → p8 → p9 → c) : c := k h.1 h.2.1 h.2.2.1 h.2.2.2.1 h.2.2.2.2.1 h.2.2.2.2.2.1 h.2.2.2.2.2.2.1 h.2.2.2.2.2.2.2.1 h.2.2.2.2.2.2.2.2
theorem and10 {p1 p2 p3 p4 p5 p6 p7 p8 p9 p10 c : Prop} (h : p1 ∧ p2 ∧ p3 ∧ p4 ∧ p5 ∧ p6 ∧ p7 ∧ p8 ∧ p9 ∧ p10) (k : p1 → p2 → p3 → p4 → p5 → p6 → p7 → p8 → p9 → p10 → c) : c := k h.1 h.2.1 h.2.2.1 h.2.2.2.1 h.2.2.2.2.1 h.2.2.2.2.2.1 h.2.2.2.2.2.2.1 h.2.2.2.2.2.2.2.1 h.2.2.2.2.2.2.2.2.1 h.2.2.2.2.2.2.2.2.2
theorem and12 {p1 p2 p3 p4 p5 p6 p7 p8 p9 p10 p11 p12 c : Prop} (h : p1 ∧ p2 ∧ p3 ∧ p4 ∧ p5 ∧ p6 ∧ p7 ∧ p8 ∧ p9 ∧ p10 ∧ p11 ∧ p12) (k : p1 → p2 → p3 → p4 → p5 → p6 → p7 → p8 → p9 → p10 → p11 → p12 → c) : c := k h.1 h.2.1 h.2.2.1 h.2.2.2.1 h.2.2.2.2.1 h.2.2.2.2.2.1 h.2.2.2.2.2.2.1 h.2.2.2.2.2.2.2.1 h.2.2.2.2.2.2.2.2.1 h.2.2.2.2.2.2.2.2.2.1 h.2.2.2.2.2.2.2.2.2.2.1 h.2.2.2.2.2.2.2.2.2.2.2
/-- plain values: tuples as trees, other objects by their place -/
inductive AV where
  | none
  | bool (b : Bool)
  | int (i : Int)
  | str (s : Str)
  | tup (l : List AV)
  | ref (a : Addr)

noncomputable abbrev Led := List (Addr × Obj)
noncomputable abbrev tupOf (vs : List Value) (n : Nat) : Obj := { cls := .type "tuple", data := .seq vs.toArray n }

mutual
inductive VIn (nx : Led) : Value → AV → Prop
  | none : VIn nx .none .none
  | bool (b : Bool) : VIn nx (.bool b) (.bool b)
  | int (i : Int) (t : Tok) : VIn nx (.int i t) (.int i)
  | str (x : Str) (t : Tok) : VIn nx (.str x t) (.str x)
  | tup {a : Addr} {vs : List Value} {n : Nat} {l : List AV} : (a, tupOf vs n) ∈ nx → VAll nx vs l → VIn nx (.ref a) (.tup l)
  | ref (a : Addr) : VIn nx (.ref a) (.ref a)
inductive VAll (nx : Led) : List Value → List AV → Prop
  | nil : VAll nx [] []
  | cons {v : Value} {vs : List Value} {d : AV} {ds : List AV} : VIn nx v d → VAll nx vs ds → VAll nx (v :: vs) (d :: ds)
end

noncomputable def IsT (o : Obj) : Prop := ∃ vs n, o = tupOf vs n
/-- the tuples of the one ledger stand in the other -/
noncomputable def Ext (nx nx' : Led) : Prop := ∀ a o, (a, o) ∈ nx → IsT o → (a, o) ∈ nx'
theorem Ext.refl (nx : Led) : Ext nx nx := fun _ _ h _ => h
theorem Ext.trans {a b c : Led} (h : Ext a b) (k : Ext b c) : Ext a c := fun x o m t => k x o (h x o m t) t
theorem Ext.cons (p : Addr × Obj) (nx : Led) : Ext nx (p :: nx) := fun _ _ h _ => .tail _ h
mutual
theorem VIn.ext {nx nx' : Led} (h : Ext nx nx') : ∀ {v : Value} {d : AV}, VIn nx v d → VIn nx' v d
  | _, _, .none => .none
  | _, _, .bool b => .bool b
  | _, _, .int i t => .int i t
  | _, _, .str x t => .str x t
  | _, _, .tup m r => .tup (h _ _ m ⟨_, _, rfl⟩) (VAll.ext h r)
  | _, _, .ref a => .ref a
theorem VAll.ext {nx nx' : Led} (h : Ext nx nx') : ∀ {v : List Value} {d : List AV}, VAll nx v d → VAll nx' v d
  | _, _, .nil => .nil
  | _, _, .cons a r => .cons (VIn.ext h a) (VAll.ext h r)
end
theorem VAll.length {nx : Led} : ∀ {vs : List Value} {l : List AV}, VAll nx vs l → vs.length = l.length
  | _, _, .nil => rfl
  | _, _, .cons _ r => congrArg (· + 1) r.length
theorem VAll.get {nx : Led} : ∀ {vs : List Value} {l : List AV}, VAll nx vs l → ∀ {k : Nat} {d : AV}, l[k]? = some d → ∃ v, vs[k]? = some v ∧ VIn nx v d
  | _, _, .cons a r, 0, _, e => by simp only [List.getElem?_cons_zero, Option.some.injEq] at e; subst e; exact ⟨_, rfl, a⟩
  | _, _, .cons a r, k + 1, _, e => by simp only [List.getElem?_cons_succ] at e ⊢; exact r.get e
theorem VAll.append {nx : Led} : ∀ {vs : List Value} {l : List AV} {ws : List Value} {k : List AV}, VAll nx vs l → VAll nx ws k → VAll nx (vs ++ ws) (l ++ k)
  | _, _, _, _, .nil, h => h
  | _, _, _, _, .cons a r, h => .cons a (r.append h)
theorem VAll.split {nx : Led} : ∀ {l k : List AV} {vs : List Value}, VAll nx vs (l ++ k) → ∃ us ws, vs = us ++ ws ∧ VAll nx us l ∧ VAll nx ws k
  | [], _, vs, h => ⟨[], vs, rfl, .nil, h⟩
  | _ :: _, _, _, .cons a r => by
    obtain ⟨us, ws, rfl, h1, h2⟩ := r.split
    exact ⟨_ :: us, ws, rfl, .cons a h1, h2⟩
theorem VAll.reverse {nx : Led} : ∀ {vs : List Value} {l : List AV}, VAll nx vs l → VAll nx vs.reverse l.reverse
  | _, _, .nil => .nil
  | _, _, .cons a r => by rw [List.reverse_cons, List.reverse_cons]; exact r.reverse.append (.cons a .nil)

/-! what a bond tells, read once -/
section
variable {nx : Led}
theorem VIn.ofRef {v : Value} {a : Addr} (h : VIn nx v (.ref a)) : v = .ref a := by cases h; rfl
theorem VIn.ofInt {v : Value} {i : Int} (h : VIn nx v (.int i)) : ∃ t, v = .int i t := by cases h; exact ⟨_, rfl⟩
theorem VIn.ofStr {v : Value} {x : Str} (h : VIn nx v (.str x)) : ∃ t, v = .str x t := by cases h; exact ⟨_, rfl⟩
theorem VIn.ofBool {v : Value} {b : Bool} (h : VIn nx v (.bool b)) : v = .bool b := by cases h; rfl
theorem VIn.ofNone {v : Value} (h : VIn nx v .none) : v = .none := by cases h; rfl
theorem VIn.ofTup {v : Value} {l : List AV} (h : VIn nx v (.tup l)) : ∃ a vs n, v = .ref a ∧ (a, tupOf vs n) ∈ nx ∧ VAll nx vs l := by cases h; exact ⟨_, _, _, rfl, by assumption, by assumption⟩
theorem VAll.is0 {vs : List Value} (h : VAll nx vs []) : vs = [] := by cases h; rfl
theorem VAll.inv {vs : List Value} {d : AV} {ds : List AV} (h : VAll nx vs (d :: ds)) : ∃ v r, vs = v :: r ∧ VIn nx v d ∧ VAll nx r ds := by cases h; exact ⟨_, _, rfl, by assumption, by assumption⟩
theorem VAll.is1 {vs : List Value} {a : AV} (h : VAll nx vs [a]) : ∃ v, vs = [v] ∧ VIn nx v a := by
  obtain ⟨v, r, rfl, h1, h2⟩ := h.inv
  obtain rfl := h2.is0
  exact ⟨v, rfl, h1⟩
theorem VAll.is2 {vs : List Value} {a b : AV} (h : VAll nx vs [a, b]) : ∃ v u, vs = [v, u] ∧ VIn nx v a ∧ VIn nx u b := by
  obtain ⟨v, r, rfl, h1, h2⟩ := h.inv
  obtain ⟨u, rfl, h3⟩ := h2.is1
  exact ⟨v, u, rfl, h1, h3⟩
theorem VAll.is3 {vs : List Value} {a b c : AV} (h : VAll nx vs [a, b, c]) : ∃ v u z, vs = [v, u, z] ∧ VIn nx v a ∧ VIn nx u b ∧ VIn nx z c := by
  obtain ⟨v, r, rfl, h1, h2⟩ := h.inv
  obtain ⟨u, z, rfl, h3, h4⟩ := h2.is2
  exact ⟨v, u, z, rfl, h1, h3, h4⟩
end
/-- what a mutable object holds -/
inductive AO where
  | list (l : List AV)
  | set (c : Bool) (S : Int → Bool)
  | dict (l : List (Int × AV))
  | inst (C dx : Addr)
  | ns (fs : List (Str × AV))
  | opq (o : Obj)
  | rng (n : Int)
  | revT (l : List AV)
noncomputable abbrev Hp := Addr → Option AO
noncomputable def Hp.put (H : Hp) (a : Addr) (o : AO) : Hp := fun b => if b = a then some o else H b

inductive NsIn (nx : Led) : List DictEntry → List (Str × AV) → Prop
  | nil : NsIn nx [] []
  | cons {h : Int} {x : Str} {t : Tok} {v : Value} {d : AV} {es : List DictEntry} {fs : List (Str × AV)} : VIn nx v d → NsIn nx es fs → NsIn nx (⟨h, .str x t, v⟩ :: es) ((x, d) :: fs)
theorem NsIn.ext {nx nx' : Led} (h : Ext nx nx') : ∀ {es : List DictEntry} {fs : List (Str × AV)}, NsIn nx es fs → NsIn nx' es fs
  | _, _, .nil => .nil
  | _, _, .cons a r => .cons (a.ext h) (r.ext h)
theorem NsIn.length {nx : Led} : ∀ {es : List DictEntry} {fs : List (Str × AV)}, NsIn nx es fs → es.length = fs.length
  | _, _, .nil => rfl
  | _, _, .cons _ r => congrArg (· + 1) r.length
noncomputable def nsGetL (x : Str) : List (Str × AV) → Option AV
  | [] => none
  | p :: r => if p.1 == x then some p.2 else nsGetL x r
noncomputable def nsPutL (x : Str) (v : AV) : List (Str × AV) → List (Str × AV)
  | [] => [(x, v)]
  | p :: r => if p.1 == x then (p.1, v) :: r else p :: nsPutL x v r
theorem nsPutL_len (x : Str) (v : AV) : ∀ fs : List (Str × AV), (nsPutL x v fs).length ≤ fs.length + 1
  | [] => Nat.le_refl _
  | p :: r => by
    unfold nsPutL
    split
    · simp
    · simp only [List.length_cons]; have := nsPutL_len x v r; omega
theorem NsIn.any {nx : Led} : ∀ {es : List DictEntry} {fs : List (Str × AV)}, NsIn nx es fs → es.any (·.refKey) = false
  | _, _, .nil => rfl
  | _, _, .cons _ r => by rw [List.any_cons, r.any]; rfl
theorem getL_cons (x : Str) (e : DictEntry) (es : List DictEntry) (h : (e :: es).any (·.refKey) = false) : getL x (e :: es) = if e.key.isStr x then some (some e.val) else getL x es := by
  have h2 : es.any (·.refKey) = false := by rw [List.any_cons] at h; exact (Bool.or_eq_false_iff.mp h).2
  unfold getL
  rw [List.find?_cons]
  cases q : e.key.isStr x with
  | true => simp
  | false => simp only [Bool.false_eq_true, if_false]; rw [h, h2]
theorem NsIn.get {nx : Led} : ∀ {es : List DictEntry} {fs : List (Str × AV)}, NsIn nx es fs → ∀ x : Str,
    match nsGetL x fs with
    | some d => ∃ v, getL x es = some (some v) ∧ VIn nx v d
    | none => getL x es = some none
  | _, _, .nil, x => rfl
  | _, _, .cons (h := h) (x := y) (t := t) (v := v) (d := d) (es := es) (fs := fs) a r, x => by
    have hx := (NsIn.cons (h := h) (x := y) (t := t) a r).any
    rw [getL_cons x _ _ hx]
    unfold nsGetL
    have e : (Value.str y t).isStr x = (y == x) := rfl
    dsimp only
    rw [e]
    cases q : y == x with
    | true => exact ⟨v, rfl, a⟩
    | false => exact r.get x
theorem NsIn.put {nx : Led} {v : Value} {d : AV} (hv : VIn nx v d) (x : Str) (hs : Int) (t' : Tok) : ∀ {es : List DictEntry} {fs : List (Str × AV)}, NsIn nx es fs → NsIn nx (putL x hs (.str x t') v es) (nsPutL x d fs)
  | _, _, .nil => .cons hv .nil
  | _, _, .cons (h := h) (x := y) (t := t) a r => by
    unfold putL nsPutL
    have e : (Value.str y t).isStr x = (y == x) := rfl
    dsimp only
    rw [e]
    cases q : y == x with
    | true => exact .cons hv r
    | false => exact .cons a (NsIn.put hv x hs t' r)

section
variable (prog : Program) (w : World)
/-- pairs of a dict keyed by ints -/
inductive KvIn (nx : Led) : List (Int × Value) → List (Int × AV) → Prop
  | nil : KvIn nx [] []
  | cons {k : Int} {v : Value} {d : AV} {es : List (Int × Value)} {fs : List (Int × AV)} : VIn nx v d → KvIn nx es fs → KvIn nx ((k, v) :: es) ((k, d) :: fs)
noncomputable def kb (b0 b1 b2 b3 b4 : Bool) : List Nat := (if b0 then [0] else []) ++ (if b1 then [1] else []) ++ (if b2 then [2] else []) ++ (if b3 then [3] else []) ++ (if b4 then [4] else [])
noncomputable def kbS (S : Int → Bool) : List Nat := kb (S 0) (S 1) (S 2) (S 3) (S 4)
noncomputable def ents (ks : List Nat) (ts : Nat → Tok) : Array (Int × Value) := (ks.map fun k : Nat => (hashInt (k : Int), Value.int (k : Int) (ts k))).toArray
noncomputable def seenTab (led : Bool) (ks : List Nat) : SetTable :=
  if ks.length < 5 then { mask := 7, place := ks.toArray, dummies := #[], finger := 0, led := led, moves := 0, plain := true }
  else { mask := 31, place := ks.toArray, dummies := #[], finger := 0, led := led, moves := 1, plain := true }
/-- a set of small ints to which things were only added: its table is known -/
noncomputable def Canon (o : Obj) (S : Int → Bool) : Prop := ∃ (ts : Nat → Tok) (ep : Nat),
  o = { cls := .type "set", dict := none, data := .set (ents (kbS S) ts) ep (seenTab (!w.params.followText "set-order") (kbS S)) }
noncomputable def card5 (S : Int → Bool) : Nat := (kbS S).length
structure SetOk (o : Obj) (c : Bool) (S : Int → Bool) : Prop where
  so : o.SetObjOf (intKind prog w) S (card5 S)
  low : ∀ k, S k = true → 0 ≤ k ∧ k < 5
  canon : c = true → Canon w o S
noncomputable def OIn (nx : Led) (o : Obj) : AO → Prop
  | .list l => ∃ vs n, o = listOf vs.toArray n ∧ VAll nx vs l
  | .set c S => SetOk prog w o c S
  | .dict l => ∃ kvs, o.IsDictOf (intKind prog w) kvs ∧ KvIn nx kvs l
  | .inst C dx => o = instObj C dx
  | .ns fs => ∃ es n, o = dictOf es n ∧ NsIn nx es fs ∧ fs.length ≤ 100
  | .opq o' => o = o' ∧ ¬ IsT o' ∧ o'.isFreed = false
  | .rng n => ∃ t u v, o = { cls := .type "range", data := .fields #[.int 0 t, .int n u, .int 1 v] }
  | .revT l => ∃ a vs n, o = { cls := .type "reversed", data := .fields #[.ref a, rawInt ((vs.length : Int) - 1)] } ∧ (a, tupOf vs n) ∈ nx ∧ VAll nx vs l
end
section
variable {prog : Program} {w : World}
theorem OIn.list {nx : Led} {vs : List Value} {n : Nat} {l : List AV} (h : VAll nx vs l) : OIn prog w nx (listOf vs.toArray n) (.list l) := ⟨_, _, rfl, h⟩
theorem OIn.set {nx : Led} {o : Obj} {c : Bool} {S : Int → Bool} (h : SetOk prog w o c S) : OIn prog w nx o (.set c S) := h
theorem OIn.dict {nx : Led} {o : Obj} {kvs : List (Int × Value)} {l : List (Int × AV)} (h : o.IsDictOf (intKind prog w) kvs) (k : KvIn nx kvs l) : OIn prog w nx o (.dict l) := ⟨_, h, k⟩
theorem OIn.inst {nx : Led} (C dx : Addr) : OIn prog w nx (instObj C dx) (.inst C dx) := rfl
theorem OIn.ns {nx : Led} {es : List DictEntry} {n : Nat} {fs : List (Str × AV)} (h : NsIn nx es fs) (k : fs.length ≤ 100) : OIn prog w nx (dictOf es n) (.ns fs) := ⟨_, _, rfl, h, k⟩
theorem OIn.opq {nx : Led} {o : Obj} (h : ¬ IsT o) (k : o.isFreed = false) : OIn prog w nx o (.opq o) := ⟨rfl, h, k⟩
theorem OIn.rng {nx : Led} {n : Int} {t u v : Tok} : OIn prog w nx { cls := .type "range", data := .fields #[.int 0 t, .int n u, .int 1 v] } (.rng n) := ⟨_, _, _, rfl⟩
theorem OIn.revT {nx : Led} {a : Addr} {vs : List Value} {n : Nat} {l : List AV} (h : (a, tupOf vs n) ∈ nx) (k : VAll nx vs l) : OIn prog w nx { cls := .type "reversed", data := .fields #[.ref a, rawInt ((vs.length : Int) - 1)] } (.revT l) := ⟨_, _, _, rfl, h, k⟩
theorem KvIn.ext {nx nx' : Led} (h : Ext nx nx') : ∀ {es : List (Int × Value)} {fs : List (Int × AV)}, KvIn nx es fs → KvIn nx' es fs
  | _, _, .nil => .nil
  | _, _, .cons a r => .cons (a.ext h) (r.ext h)
theorem OIn.ext {nx nx' : Led} (h : Ext nx nx') {o : Obj} : ∀ {ao : AO}, OIn prog w nx o ao → OIn prog w nx' o ao
  | .list _, ⟨vs, n, e, a⟩ => ⟨vs, n, e, a.ext h⟩
  | .set _ _, a => a
  | .dict _, ⟨kvs, a, b⟩ => ⟨kvs, a, b.ext h⟩
  | .inst _ _, a => a
  | .ns _, ⟨es, n, e, a, b⟩ => ⟨es, n, e, a.ext h, b⟩
  | .opq _, a => a
  | .rng _, a => a
  | .revT _, ⟨a, vs, n, e, m, r⟩ => ⟨a, vs, n, e, h _ _ m ⟨_, _, rfl⟩, r.ext h⟩
theorem tup_ne {T : String} (o : Obj) (h : o.cls = .type T) (hT : T ≠ "tuple") : ¬ IsT o := by
  rintro ⟨vs, n, e⟩
  rw [e] at h
  exact hT (Value.type.inj h).symm
theorem OIn.notT {nx : Led} {o : Obj} : ∀ {ao : AO}, OIn prog w nx o ao → ¬ IsT o
  | .list _, ⟨vs, n, e, a⟩ => by subst e; exact tup_ne (T := "list") _ rfl (by decide)
  | .set _ _, a => tup_ne (T := "set") _ a.so.1.1 (by decide)
  | .dict _, ⟨kvs, a, b⟩ => by obtain ⟨_, _, hc, _⟩ := a; exact tup_ne (T := "dict") _ hc.1 (by decide)
  | .inst _ _, a => by subst a; rintro ⟨vs, n, e⟩; exact Value.noConfusion (congrArg Obj.cls e)
  | .ns _, ⟨es, n, e, a, b⟩ => by subst e; exact tup_ne (T := "dict") _ rfl (by decide)
  | .opq _, a => by rw [a.1]; exact a.2.1
  | .rng _, ⟨t, u, v, e⟩ => by subst e; exact tup_ne (T := "range") _ rfl (by decide)
  | .revT _, ⟨a, vs, n, e, m, r⟩ => by subst e; exact tup_ne (T := "reversed") _ rfl (by decide)
theorem OIn.notFreed {nx : Led} {o : Obj} : ∀ {ao : AO}, OIn prog w nx o ao → o.isFreed = false
  | .list _, ⟨vs, n, e, a⟩ => by subst e; rfl
  | .set _ _, a => by obtain ⟨_, _, _, _, hd, _⟩ := a.so; obtain ⟨c, d, dd, sl⟩ := o; dsimp only at hd; subst hd; rfl
  | .dict _, ⟨kvs, a, b⟩ => by obtain ⟨_, _, _, hd, _⟩ := a; obtain ⟨c, d, dd, sl⟩ := o; dsimp only at hd; subst hd; rfl
  | .inst _ _, a => by subst a; rfl
  | .ns _, ⟨es, n, e, a, b⟩ => by subst e; rfl
  | .opq _, a => by rw [a.1]; exact a.2.2
  | .rng _, ⟨t, u, v, e⟩ => by subst e; rfl
  | .revT _, ⟨a, vs, n, e, m, r⟩ => by subst e; rfl

section
variable {nx : Led} {o : Obj}
theorem OIn.ofList {l : List AV} (h : OIn prog w nx o (.list l)) : ∃ vs n, o = listOf vs.toArray n ∧ VAll nx vs l := h
theorem OIn.ofSet {c : Bool} {S : Int → Bool} (h : OIn prog w nx o (.set c S)) : SetOk prog w o c S := h
theorem OIn.ofDict {l : List (Int × AV)} (h : OIn prog w nx o (.dict l)) : ∃ kvs, o.IsDictOf (intKind prog w) kvs ∧ KvIn nx kvs l := h
theorem OIn.ofInst {C dx : Addr} (h : OIn prog w nx o (.inst C dx)) : o = instObj C dx := h
theorem OIn.ofNs {fs : List (Str × AV)} (h : OIn prog w nx o (.ns fs)) : ∃ es n, o = dictOf es n ∧ NsIn nx es fs ∧ fs.length ≤ 100 := h
theorem OIn.ofOpq {o' : Obj} (h : OIn prog w nx o (.opq o')) : o = o' ∧ ¬ IsT o' ∧ o'.isFreed = false := h
theorem OIn.ofRng {n : Int} (h : OIn prog w nx o (.rng n)) : ∃ t u v, o = { cls := .type "range", data := .fields #[.int 0 t, .int n u, .int 1 v] } := h
theorem OIn.ofRevT {l : List AV} (h : OIn prog w nx o (.revT l)) : ∃ a vs n, o = { cls := .type "reversed", data := .fields #[.ref a, rawInt ((vs.length : Int) - 1)] } ∧ (a, tupOf vs n) ∈ nx ∧ VAll nx vs l := h
end
/-- every object of the abstract heap stands in the ledger -/
noncomputable def Obs (prog : Program) (w : World) (nx : Led) (H : Hp) : Prop := ∀ a ao, H a = some ao → ∃ o, (a, o) ∈ nx ∧ OIn prog w nx o ao
theorem Obs.ext {nx nx' : Led} {H : Hp} (h : Obs prog w nx H) (k : ∀ p ∈ nx, p ∈ nx') : Obs prog w nx' H := fun a ao e => by
  obtain ⟨o, h1, h2⟩ := h a ao e
  exact ⟨o, k _ h1, h2.ext fun x y m _ => k _ m⟩

/-- a frame of one of the text's defs -/
structure Fm where
  p : Program
  loose : List Str
  mean : ExcName → Option Value
  mg : Str → Option Value
  mb : Str → Option Value
  A₀ : Around
  A : Around
  base : Heap
  h₀ : Heap
  outer : List Env
  L : Addr
  a : Addr
  name : Str
  scope : Scope
  cd : Value
  cl : List (Str × Addr)
  r : Nat
  own : Led
noncomputable abbrev Fm.env (f : Fm) : Env := envX f.name f.scope f.L f.a f.cd f.cl
noncomputable abbrev KK (w : World) : Frag := Mine.Kf w.params
structure Fm.Ok (w : World) (f : Fm) : Prop where
  B : Below f.A₀ f.base f.outer f.h₀
  X : (KK w).In f.h₀
  T : Top f.p f.loose f.mean f.mg f.mb f.h₀
  frames : f.A.frames = some (f.env :: f.outer)
  hh : f.A.handled = none
  kind : f.scope.kind = .function
  dep : f.A.depth + f.r < recursionLimit
  un : f.A.units + 12 * f.r < cLine

noncomputable abbrev En := List (Str × AV)
noncomputable def En.get (ε : En) (x : Str) : Option AV := nsGetL x ε

structure St (prog : Program) (w : World) (f : Fm) (s : Shared) (m : Str → Option Value) (nx : Led) (ε : En) (H : Hp) : Prop where
  F : Fr f.h₀ f.L s.heap m
  N : News f.h₀ f.L s.heap nx
  loc : ∀ x av, ε.get x = some av → ∃ v, m x = some v ∧ VIn nx v av
  obj : Obs prog w nx H
  own : ∀ p ∈ f.own, p ∈ nx ∧ H p.1 = none
noncomputable def Bot {α : Type} : α → Shared → Prop := fun _ _ => False
/-- what a step hands on -/
noncomputable def Same (s s' : Shared) : Prop := ∃ h t, s' = { s with heap := h, toks := t }
theorem Same.refl (s : Shared) : Same s s := ⟨_, _, rfl⟩
theorem Same.trans {a b c : Shared} (x : Same a b) (y : Same b c) : Same a c := by
  obtain ⟨_, _, rfl⟩ := x; obtain ⟨_, _, rfl⟩ := y; exact ⟨_, _, rfl⟩

/-- what a step is to hand on -/
inductive PE (prog : Program) (w : World) (f : Fm) (s : Shared) (m : Str → Option Value) (nx : Led) (ε : En) (Q : AV → Hp → Prop) (v : Value) (s' : Shared) : Prop
  | intro (a : Same s s') (nx' : Led) (av : AV) (H' : Hp) (b : St prog w f s' m nx' ε H') (c : Ext nx nx') (d : VIn nx' v av) (q : Q av H') : PE prog w f s m nx ε Q v s'
inductive PL (prog : Program) (w : World) (f : Fm) (s : Shared) (m : Str → Option Value) (nx : Led) (ε : En) (Q : List AV → Hp → Prop) (v : List Value) (s' : Shared) : Prop
  | intro (a : Same s s') (nx' : Led) (av : List AV) (H' : Hp) (b : St prog w f s' m nx' ε H') (c : Ext nx nx') (d : VAll nx' v av) (q : Q av H') : PL prog w f s m nx ε Q v s'
inductive PT (prog : Program) (w : World) (f : Fm) (s : Shared) (m : Str → Option Value) (nx : Led) (ε : En) (Q : Bool → Hp → Prop) (v : Bool) (s' : Shared) : Prop
  | intro (a : Same s s') (nx' : Led) (H' : Hp) (b : St prog w f s' m nx' ε H') (c : Ext nx nx') (q : Q v H') : PT prog w f s m nx ε Q v s'
/-- an expression gives back a value and a heap as told -/
noncomputable def E1 (prog : Program) (w : World) (f : Fm) (e : PySem.Expr) (ε : En) (H : Hp) (Q : AV → Hp → Prop) : Prop :=
  f.Ok w → ∀ s m nx, St prog w f s m nx ε H → wpAny (model prog w) f.A (eval e f.env)
    (PE prog w f s m nx ε Q) Bot s
noncomputable def ES (prog : Program) (w : World) (f : Fm) (es : List PySem.Expr) (ε : En) (H : Hp) (Q : List AV → Hp → Prop) : Prop :=
  f.Ok w → ∀ pos s m nx, St prog w f s m nx ε H → wpAny (model prog w) f.A (spliced (backTo pos (starEach es f.env)))
    (PL prog w f s m nx ε Q) Bot s
/-- a test -/
noncomputable def T1 (prog : Program) (w : World) (f : Fm) (e : PySem.Expr) (ε : En) (H : Hp) (Q : Bool → Hp → Prop) : Prop :=
  f.Ok w → ∀ s m nx, St prog w f s m nx ε H → wpAny (model prog w) f.A (PySem.isTrue e f.env (eval e f.env))
    (PT prog w f s m nx ε Q) Bot s
inductive FV where
  | next
  | cont
  | brk
  | ret (v : AV)
inductive FlIn (nx : Led) : Flow → FV → Prop
  | next : FlIn nx .next .next
  | cont : FlIn nx .cont .cont
  | brk : FlIn nx .brk .brk
  | ret {v : Value} {d : AV} : VIn nx v d → FlIn nx (.ret v) (.ret d)
inductive PS (prog : Program) (w : World) (f : Fm) (s : Shared) (nx : Led) (Q : FV → En → Hp → Prop) (fl : Flow) (s' : Shared) : Prop
  | intro (a : Same s s') (m' : Str → Option Value) (nx' : Led) (fv : FV) (ε' : En) (H' : Hp) (b : St prog w f s' m' nx' ε' H') (c : Ext nx nx') (d : FlIn nx' fl fv) (q : Q fv ε' H') : PS prog w f s nx Q fl s'
noncomputable def S1 (prog : Program) (w : World) (f : Fm) (t : Sem Flow) (ε : En) (H : Hp) (Q : FV → En → Hp → Prop) : Prop :=
  f.Ok w → ∀ s m nx, St prog w f s m nx ε H → wpAny (model prog w) f.A t
    (PS prog w f s nx Q) Bot s
end
end Mine
set_option Elab.async false
set_option linter.unusedVariables false
set_option maxRecDepth 100000
namespace Mine
open PySem PySem.W PySem.Calls PySem.Spec PyProof.Rows
section
variable {prog : Program} {w : World} {f : Fm} {ε : En} {H : Hp} {s s' : Shared} {m : Str → Option Value} {nx nx' : Led}

theorem St.heapEq (S : St prog w f s m nx ε H) (e : s'.heap = s.heap) : St prog w f s' m nx ε H := ⟨e ▸ S.F, e ▸ S.N, S.loc, S.obj, S.own⟩
theorem St.X (S : St prog w f s m nx ε H) (o : f.Ok w) : (KK w).In s.heap := o.X.keeps S.F.keep
theorem Same.toks (s : Shared) (t : Nat) : Same s { s with toks := t } := ⟨s.heap, t, rfl⟩
theorem St.mem (S : St prog w f s m nx ε H) {a : Addr} {o : Obj} (h : (a, o) ∈ nx) : s.heap.get? a = some o := (S.N _ h).1
/-- a new object at the head of the ledger -/
theorem St.more (S : St prog w f s m nx ε H) {h' : Heap} {p : Addr × Obj} (F : Fr f.h₀ f.L h' m) (N : News f.h₀ f.L h' (p :: nx)) (hs : s'.heap = h') : St prog w f s' m (p :: nx) ε H :=
  ⟨hs ▸ F, hs ▸ N, fun x av e => let ⟨v, h1, h2⟩ := S.loc x av e; ⟨v, h1, h2.ext (Ext.cons _ _)⟩, S.obj.ext fun _ h => .tail _ h, fun q hq => ⟨.tail _ (S.own q hq).1, (S.own q hq).2⟩⟩
theorem St.fresh (S : St prog w f s m nx ε H) {l : Addr} (h : ∀ p ∈ nx, p.1 < l) : H l = none := by
  cases e : H l with
  | none => rfl
  | some o => obtain ⟨ob, h1, _⟩ := S.obj _ _ e; exact absurd (h _ h1) (Nat.lt_irrefl _)
theorem Obs.put {o : Obj} {ao : AO} {l : Addr} (h : Obs prog w nx H) (hm : (l, o) ∈ nx) (ho : OIn prog w nx o ao) : Obs prog w nx (H.put l ao) := fun a b e => by
  unfold Hp.put at e
  split at e
  · rename_i q; cases e; subst q; exact ⟨o, hm, ho⟩
  · exact h a b e
theorem St.new (S : St prog w f s m nx ε H) {h' : Heap} {o : Obj} {ao : AO} {l : Addr} (F : Fr f.h₀ f.L h' m) (N : News f.h₀ f.L h' ((l, o) :: nx)) (hs : s'.heap = h') (hl : ∀ p ∈ nx, p.1 < l) (ho : OIn prog w ((l, o) :: nx) o ao) :
    St prog w f s' m ((l, o) :: nx) ε (H.put l ao) := by
  have T := S.more (s' := s') F N hs
  refine ⟨T.F, T.N, T.loc, T.obj.put (.head _) ho, fun q hq => ⟨(T.own q hq).1, ?_⟩⟩
  have h1 := hl q (S.own q hq).1
  unfold Hp.put
  rw [if_neg (Nat.ne_of_lt h1)]
  exact (S.own q hq).2
/-- one object of the ledger is turned, all else stands -/
noncomputable def Led.turn (nx : Led) (d : Addr) (o : Obj) : Led := (d, o) :: nx.filter (fun p => decide (p.1 ≠ d))
theorem Led.turn_ext (d : Addr) (o : Obj) (h : ∀ o', (d, o') ∈ nx → ¬ IsT o') : Ext nx (nx.turn d o) := fun a ob m t => by
  by_cases q : a = d
  · subst q; exact absurd t (h _ m)
  · exact .tail _ (List.mem_filter.mpr ⟨m, decide_eq_true q⟩)
theorem Obs.turn {d : Addr} {o' : Obj} {ao ao' : AO} (h : Obs prog w nx H) (hd : H d = some ao) (x : Ext nx (nx.turn d o')) (ho : OIn prog w (nx.turn d o') o' ao') : Obs prog w (nx.turn d o') (H.put d ao') := fun a b e => by
  unfold Hp.put at e
  split at e
  · rename_i q; cases e; subst q; exact ⟨o', .head _, ho⟩
  · rename_i q
    obtain ⟨o, h1, h2⟩ := h a b e
    exact ⟨o, .tail _ (List.mem_filter.mpr ⟨h1, decide_eq_true q⟩), h2.ext x⟩
theorem St.turn (S : St prog w f s m nx ε H) {d : Addr} {o o' : Obj} {ao ao' : AO} (hd : H d = some ao) (hm : (d, o) ∈ nx) (hs : Heap.SameBut d s.heap s'.heap) (ho' : s'.heap.get? d = some o')
    (hin : ∀ nx', Ext nx nx' → OIn prog w nx' o' ao') : St prog w f s' m (nx.turn d o') ε (H.put d ao') ∧ Ext nx (nx.turn d o') := by
  have hN := S.N _ hm
  have nt : ∀ o₂, (d, o₂) ∈ nx → ¬ IsT o₂ := fun o₂ h t => by
    obtain ⟨o₁, h1, h2⟩ := S.obj _ _ hd
    have e1 := (S.N _ h).1; have e2 := (S.N _ h1).1
    dsimp only at e1 e2
    rw [e1] at e2; cases e2
    exact h2.notT t
  have x := Led.turn_ext (nx := nx) d o' nt
  refine ⟨⟨S.F.change hs hN.2.1 hN.2.2, fun p hp => ?_, fun y av e => let ⟨v, h1, h2⟩ := S.loc y av e; ⟨v, h1, h2.ext x⟩, S.obj.turn hd x (hin _ x), fun q hq => ?_⟩, x⟩
  rotate_left
  · obtain ⟨q1, q2⟩ := S.own q hq
    have ne : q.1 ≠ d := fun e => by rw [e, hd] at q2; cases q2
    exact ⟨.tail _ (List.mem_filter.mpr ⟨q1, decide_eq_true ne⟩), by unfold Hp.put; rw [if_neg ne]; exact q2⟩
  rcases List.mem_cons.mp hp with rfl | hp
  · exact ⟨ho', hN.2⟩
  · obtain ⟨h1, h2⟩ := List.mem_filter.mp hp
    have h2' : p.1 ≠ d := of_decide_eq_true h2
    exact ⟨(hs.2 _ h2').trans (S.N _ h1).1, (S.N _ h1).2⟩

theorem St.turnN (S : St prog w f s m nx ε H) {d : Addr} {o o' : Obj} {ao ao' : AO} {h' : Heap} (hd : H d = some ao) (hm : (d, o) ∈ nx) (F : Fr f.h₀ f.L h' m) (N : News f.h₀ f.L h' (nx.turn d o')) (hs : s'.heap = h')
    (hin : ∀ nx', Ext nx nx' → OIn prog w nx' o' ao') : St prog w f s' m (nx.turn d o') ε (H.put d ao') ∧ Ext nx (nx.turn d o') := by
  have nt : ∀ o₂, (d, o₂) ∈ nx → ¬ IsT o₂ := fun o₂ h t => by
    obtain ⟨o₁, h1, h2⟩ := S.obj _ _ hd
    have e1 := (S.N _ h).1; have e2 := (S.N _ h1).1
    dsimp only at e1 e2
    rw [e1] at e2; cases e2
    exact h2.notT t
  have x := Led.turn_ext (nx := nx) d o' nt
  refine ⟨⟨hs ▸ F, hs ▸ N, fun y av e => let ⟨v, h1, h2⟩ := S.loc y av e; ⟨v, h1, h2.ext x⟩, S.obj.turn hd x (hin _ x), fun q hq => ?_⟩, x⟩
  obtain ⟨q1, q2⟩ := S.own q hq
  have ne : q.1 ≠ d := fun e => by rw [e, hd] at q2; cases q2
  exact ⟨.tail _ (List.mem_filter.mpr ⟨q1, decide_eq_true ne⟩), by unfold Hp.put; rw [if_neg ne]; exact q2⟩
/-- the ledger with the one object ahead -/
theorem St.focus (S : St prog w f s m nx ε H) {d : Addr} {o : Obj} (hm : (d, o) ∈ nx) : News f.h₀ f.L s.heap (nx.turn d o) := fun p hp => by
  rcases List.mem_cons.mp hp with rfl | hp
  · exact S.N _ hm
  · exact S.N _ (List.mem_filter.mp hp).1
theorem Led.upd (nx : Led) (d : Addr) (o o' : Obj) : Upd d o o' (nx.turn d o) (nx.turn d o') := .head fun p hp => of_decide_eq_true (List.mem_filter.mp hp).2
theorem E1.use {e : PySem.Expr} {Q : AV → Hp → Prop} {R : Value → Shared → Prop} {E : Value → Shared → Prop} (h : E1 prog w f e ε H Q) (o : f.Ok w) (S : St prog w f s m nx ε H)
    (k : ∀ v s' nx' av H', Same s s' → St prog w f s' m nx' ε H' → Ext nx nx' → VIn nx' v av → Q av H' → R v s') : wpAny (model prog w) f.A (eval e f.env) R E s :=
  wpAny_mono (h o s m nx S) (fun v s' ⟨a, nx', av, H', b, c, d, q⟩ => k v s' nx' av H' a b c d q) fun _ _ x => x.elim
theorem ES.use {es : List PySem.Expr} {pos : Pos} {Q : List AV → Hp → Prop} {R : List Value → Shared → Prop} {E : Value → Shared → Prop} (h : ES prog w f es ε H Q) (o : f.Ok w) (S : St prog w f s m nx ε H)
    (k : ∀ v s' nx' av H', Same s s' → St prog w f s' m nx' ε H' → Ext nx nx' → VAll nx' v av → Q av H' → R v s') : wpAny (model prog w) f.A (spliced (backTo pos (starEach es f.env))) R E s :=
  wpAny_mono (h o pos s m nx S) (fun v s' ⟨a, nx', av, H', b, c, d, q⟩ => k v s' nx' av H' a b c d q) fun _ _ x => x.elim
theorem T1.use {e : PySem.Expr} {Q : Bool → Hp → Prop} {R : Bool → Shared → Prop} {E : Value → Shared → Prop} (h : T1 prog w f e ε H Q) (o : f.Ok w) (S : St prog w f s m nx ε H)
    (k : ∀ v s' nx' H', Same s s' → St prog w f s' m nx' ε H' → Ext nx nx' → Q v H' → R v s') : wpAny (model prog w) f.A (PySem.isTrue e f.env (eval e f.env)) R E s :=
  wpAny_mono (h o s m nx S) (fun v s' ⟨a, nx', H', b, c, q⟩ => k v s' nx' H' a b c q) fun _ _ x => x.elim
theorem S1.use {t : Sem Flow} {Q : FV → En → Hp → Prop} {R : Flow → Shared → Prop} {E : Value → Shared → Prop} (h : S1 prog w f t ε H Q) (o : f.Ok w) (S : St prog w f s m nx ε H)
    (k : ∀ fl s' m' nx' fv ε' H', Same s s' → St prog w f s' m' nx' ε' H' → Ext nx nx' → FlIn nx' fl fv → Q fv ε' H' → R fl s') : wpAny (model prog w) f.A t R E s :=
  wpAny_mono (h o s m nx S) (fun v s' ⟨a, m', nx', fv, ε', H', b, c, d, q⟩ => k v s' m' nx' fv ε' H' a b c d q) fun _ _ x => x.elim
theorem E1.mono {e : PySem.Expr} {Q Q' : AV → Hp → Prop} (h : E1 prog w f e ε H Q) (k : ∀ v H', Q v H' → Q' v H') : E1 prog w f e ε H Q' := fun o s m nx S =>
  h.use o S fun v s' nx' av H' a b c d q => ⟨a, nx', av, H', b, c, d, k _ _ q⟩
theorem T1.mono {e : PySem.Expr} {Q Q' : Bool → Hp → Prop} (h : T1 prog w f e ε H Q) (k : ∀ v H', Q v H' → Q' v H') : T1 prog w f e ε H Q' := fun o s m nx S =>
  h.use o S fun v s' nx' H' a b c q => ⟨a, nx', H', b, c, k _ _ q⟩
theorem S1.mono {t : Sem Flow} {Q Q' : FV → En → Hp → Prop} (h : S1 prog w f t ε H Q) (k : ∀ v ε' H', Q v ε' H' → Q' v ε' H') : S1 prog w f t ε H Q' := fun o s m nx S =>
  h.use o S fun fl s' m' nx' fv ε' H' a b c d q => ⟨a, m', nx', fv, ε', H', b, c, d, k _ _ _ q⟩
theorem St.weak {ε₂ : En} {H₂ : Hp} (S : St prog w f s m nx ε H) (h1 : ∀ x v, ε₂.get x = some v → ε.get x = some v) (h2 : ∀ a o, H₂ a = some o → H a = some o) : St prog w f s m nx ε₂ H₂ :=
  ⟨S.F, S.N, fun x v e => S.loc x v (h1 x v e), fun a o e => S.obj a o (h2 a o e), fun p hp => ⟨(S.own p hp).1, by
    cases q : H₂ p.1 with
    | none => rfl
    | some o => have := h2 _ _ q; rw [(S.own p hp).2] at this; cases this⟩⟩
/-! what a step asks of what is handed on: named, so that the terms stay small -/
noncomputable abbrev Two (prog : Program) (w : World) (f : Fm) (r : PySem.Expr) (ε : En) (R : AV → AV → Hp → Prop) : AV → Hp → Prop := fun a H₁ => E1 prog w f r ε H₁ (R a)
noncomputable abbrev ConsV (Q : List AV → Hp → Prop) (v : AV) : List AV → Hp → Prop := fun vs H₂ => Q (v :: vs) H₂
noncomputable abbrev ConsQ (prog : Program) (w : World) (f : Fm) (es : List PySem.Expr) (ε : En) (Q : List AV → Hp → Prop) : AV → Hp → Prop := fun v H₁ => ES prog w f es ε H₁ (ConsV Q v)
structure TupP (Q : AV → Hp → Prop) (vs : List AV) (H : Hp) : Prop where
  (len : vs.length ≤ 1000) (q : Q (.tup vs) H)
structure ListP (Q : AV → Hp → Prop) (vs : List AV) (H : Hp) : Prop where
  (len : vs.length ≤ 1000) (q : ∀ l, H l = none → Q (.ref l) (H.put l (.list vs)))
inductive AddP (Q : AV → Hp → Prop) (a b : AV) (H : Hp) : Prop
  | intro (i j : Int) : a = .int i → b = .int j → Q (.int (i + j)) H → AddP Q a b H
inductive SubP (Q : AV → Hp → Prop) (a b : AV) (H : Hp) : Prop
  | intro (i j : Int) : a = .int i → b = .int j → Q (.int (i - j)) H → SubP Q a b H
/-! expressions -/
theorem e_local {x : Str} {pos : Pos} {av : AV} {Q : AV → Hp → Prop} (hv : ε.get x = some av) (hx : f.env.kindOf x = some .local) (q : Q av H) (hd : (x == ("__debug__" : Str)) = false := by decide) : E1 prog w f (.Name x pos) ε H Q := fun o s m nx S => by
  obtain ⟨v, h1, h2⟩ := S.loc x av hv
  exact nameX_L S.F h1 ⟨.refl s, nx, av, H, S, .refl _, h2, q⟩ o.kind hx hd
theorem e_global {x : Str} {pos : Pos} {v : Value} {av : AV} {Q : AV → Hp → Prop} (e : nsIn (KK w) mainGlobals x = some (some v)) (hv : VIn [] v av) (hx : f.env.kindOf x = some .globalImplicit) (q : Q av H) (hd : (x == ("__debug__" : Str)) = false := by decide) :
    E1 prog w f (.Name x pos) ε H Q := fun o s m nx S =>
  nameX_K S.F o.X (topRead_of o.T) e ⟨.refl s, nx, av, H, S, .refl _, hv.ext (by intro _ _ h; cases h), q⟩ o.kind hx hd
theorem e_int {i : Int} {k : Nat} {pos : Pos} {Q : AV → Hp → Prop} (q : Q (.int i) H) : E1 prog w f (.Constant (.int i) k pos) ε H Q := fun o s m nx S =>
  wpAny_Constant_int ⟨.toks s _, nx, _, H, S.heapEq rfl, .refl _, .int _ _, q⟩
theorem e_str {x : Str} {k : Nat} {pos : Pos} {Q : AV → Hp → Prop} (q : Q (.str x) H) : E1 prog w f (.Constant (.str x) k pos) ε H Q := fun o s m nx S =>
  Calls.Constant_str ⟨.toks s _, nx, _, H, S.heapEq rfl, .refl _, .str _ _, q⟩
theorem e_bool {b : Bool} {k : Nat} {pos : Pos} {Q : AV → Hp → Prop} (q : Q (.bool b) H) : E1 prog w f (.Constant (.bool b) k pos) ε H Q := fun o s m nx S =>
  Constant_bool ⟨.refl s, nx, _, H, S, .refl _, .bool _, q⟩
theorem es_nil {Q : List AV → Hp → Prop} (q : Q [] H) : ES prog w f [] ε H Q := fun o pos s m nx S => spliced_none ⟨.refl s, nx, [], H, S, .refl _, .nil, q⟩
theorem es_cons {e : PySem.Expr} {es : List PySem.Expr} {Q : List AV → Hp → Prop} (h : E1 prog w f e ε H (ConsQ prog w f es ε Q))
    (hs : starEach (e :: es) f.env = (false, eval e f.env) :: starEach es f.env := by rfl) : ES prog w f (e :: es) ε H Q := fun o pos s m nx S =>
  spliced_more (h.use o S fun v s₁ nx₁ av H₁ a b c d q => q.use o b fun vs s₂ nx₂ avs H₂ a' b' c' d' q' => ⟨a.trans a', nx₂, _, H₂, b', c.trans c', .cons (d.ext c') d', q'⟩) hs

theorem e_tuple {es : List PySem.Expr} {k : Nat} {pos : Pos} {Q : AV → Hp → Prop} (h : ES prog w f es ε H (TupP Q)) : E1 prog w f (.Tuple es k pos) ε H Q := fun o s m nx S =>
  Tuple_ (h.use o S fun vs s₁ nx₁ avs H₁ a b c d q =>
    newTuple_N b.F b.N (fun h' F' N' => ⟨a.trans ⟨h', _, rfl⟩, _, .tup avs, H₁, b.more F' N' rfl, c.trans (.cons _ _), .tup (.head _) (d.ext (.cons _ _)), q.2⟩)
      (by have := d.length; have h1 := q.1; rw [sizeLine_eq]; omega))
theorem e_list {es : List PySem.Expr} {pos : Pos} {Q : AV → Hp → Prop} (h : ES prog w f es ε H (ListP Q)) : E1 prog w f (.List es pos) ε H Q := fun o s m nx S =>
  List_ (h.use o S fun vs s₁ nx₁ avs H₁ a b c d q =>
    newList_K b.F b.N (fun l h' F' N' hl => ⟨a.trans ⟨h', _, rfl⟩, _, .ref l, H₁.put l (.list avs), b.new F' N' rfl hl (.list (d.ext (.cons _ _))), c.trans (.cons _ _), .ref l, q.2 l (b.fresh hl)⟩)
      (by have := d.length; have h1 := q.1; rw [sizeLine_eq]; omega))

/-! arithmetic, comparisons: the two sides first -/
theorem e_bin {l r : PySem.Expr} {op : Operator} {pos : Pos} {Q : AV → Hp → Prop}
    (h : E1 prog w f l ε H fun a H₁ => E1 prog w f r ε H₁ fun b H₂ => ∀ s m nx v u, f.Ok w → St prog w f s m nx ε H₂ → VIn nx v a → VIn nx u b → wpAny (model prog w) f.A (binaryOp op v u)
      (PE prog w f s m nx ε Q) Bot s) : E1 prog w f (.BinOp l op r pos) ε H Q := fun o s m nx S =>
  wpAny_BinOp (h.use o S fun v s₁ nx₁ av H₁ a b c d q => q.use o b fun u s₂ nx₂ bv H₂ a' b' c' d' q' =>
    wpAny_mono (q' s₂ m nx₂ v u o b' (d.ext c') d') (fun v s₃ ⟨x, nx₃, cv, H₃, y, z, t, g⟩ => ⟨(a.trans a').trans x, nx₃, cv, H₃, y, (c.trans c').trans z, t, g⟩) fun _ _ x => x)
theorem e_add {l r : PySem.Expr} {pos : Pos} {Q : AV → Hp → Prop} (h : E1 prog w f l ε H (Two prog w f r ε (AddP Q))) : E1 prog w f (.BinOp l .Add r pos) ε H Q :=
  e_bin (h.mono fun a H₁ h₁ => h₁.mono fun b H₂ ⟨i, j, e1, e2, q⟩ s m nx v u o S hv hu => by
    subst e1 e2; obtain ⟨_, rfl⟩ := hv.ofInt; obtain ⟨_, rfl⟩ := hu.ofInt
    exact add_int ⟨.toks s _, nx, _, H₂, S.heapEq rfl, .refl _, .int _ _, q⟩)
theorem e_sub {l r : PySem.Expr} {pos : Pos} {Q : AV → Hp → Prop} (h : E1 prog w f l ε H (Two prog w f r ε (SubP Q))) : E1 prog w f (.BinOp l .Sub r pos) ε H Q :=
  e_bin (h.mono fun a H₁ h₁ => h₁.mono fun b H₂ ⟨i, j, e1, e2, q⟩ s m nx v u o S hv hu => by
    subst e1 e2; obtain ⟨_, rfl⟩ := hv.ofInt; obtain ⟨_, rfl⟩ := hu.ofInt
    exact sub_int ⟨.toks s _, nx, _, H₂, S.heapEq rfl, .refl _, .int _ _, q⟩)
theorem e_mod {l r : PySem.Expr} {pos : Pos} {Q : AV → Hp → Prop} (h : E1 prog w f l ε H fun a H₁ => E1 prog w f r ε H₁ fun b H₂ => ∃ i j, a = .int i ∧ b = .int j ∧ j ≠ 0 ∧ Q (.int (Int.fmod i j)) H₂) : E1 prog w f (.BinOp l .Mod r pos) ε H Q :=
  e_bin (h.mono fun a H₁ h₁ => h₁.mono fun b H₂ ⟨i, j, e1, e2, hj, q⟩ s m nx v u o S hv hu => by
    subst e1 e2; obtain ⟨_, rfl⟩ := hv.ofInt; obtain ⟨_, rfl⟩ := hu.ofInt
    exact mod_int hj ⟨.toks s _, nx, _, H₂, S.heapEq rfl, .refl _, .int _ _, q⟩)
theorem e_cat {l r : PySem.Expr} {pos : Pos} {Q : AV → Hp → Prop} (h : E1 prog w f l ε H fun a H₁ => E1 prog w f r ε H₁ fun b H₂ => ∃ i j : Str, a = .str i ∧ b = .str j ∧ i.length + j.length ≤ 1000 ∧ Q (.str (i ++ j)) H₂) : E1 prog w f (.BinOp l .Add r pos) ε H Q :=
  e_bin (h.mono fun a H₁ h₁ => h₁.mono fun b H₂ ⟨i, j, e1, e2, hj, q⟩ s m nx v u o S hv hu => by
    subst e1 e2; obtain ⟨_, rfl⟩ := hv.ofStr; obtain ⟨_, rfl⟩ := hu.ofStr
    exact add_str (fun t' tk => ⟨.toks s _, nx, _, H₂, S.heapEq rfl, .refl _, .str _ _, q⟩) (by rw [sizeLine_eq]; omega))

end
end Mine
set_option Elab.async false
set_option linter.unusedVariables false
set_option maxRecDepth 100000
namespace Mine
open PySem PySem.W PySem.Calls PySem.Spec PyProof.Rows
section
variable {prog : Program} {w : World} {f : Fm} {ε : En} {H : Hp} {s s' : Shared} {m : Str → Option Value} {nx nx' : Led}

theorem PE.pre {s₀ : Shared} {nx₀ : Led} {Q : AV → Hp → Prop} {v : Value} (h : PE prog w f s m nx ε Q v s') (a : Same s₀ s) (x : Ext nx₀ nx) : PE prog w f s₀ m nx₀ ε Q v s' :=
  let ⟨b, nx', av, H', c, d, e, q⟩ := h; ⟨a.trans b, nx', av, H', c, x.trans d, e, q⟩

/-- a comparison that leaves all as it is -/
noncomputable def Cmp (prog : Program) (w : World) (op : CmpOp) (a b : AV) (H : Hp) (c : Bool) : Prop :=
  ∀ (f : Fm) (s : Shared) (m : Str → Option Value) (nx : Led) (ε : En) (v u : Value) (Q E : Value → Shared → Prop), f.Ok w → 6 ≤ f.r → St prog w f s m nx ε H → VIn nx v a → VIn nx u b →
    (∀ t, Q (.bool c) { s with toks := t }) → wpAny (model prog w) f.A (compareOp op v u) Q E s
inductive CmpP (prog : Program) (w : World) (op : CmpOp) (Q : Bool → Hp → Prop) (a b : AV) (H : Hp) : Prop
  | intro (c : Bool) : Cmp prog w op a b H c → Q c H → CmpP prog w op Q a b H
noncomputable abbrev BoolQ (Q : AV → Hp → Prop) : Bool → Hp → Prop := fun c H => Q (.bool c) H
structure AndP (prog : Program) (w : World) (f : Fm) (es : List PySem.Expr) (pos : Pos) (ε : En) (Q : Bool → Hp → Prop) (b : Bool) (H : Hp) : Prop where
  (no : b = false → Q false H) (yes : b = true → T1 prog w f (.BoolOp .And es pos) ε H Q)
structure OrP (prog : Program) (w : World) (f : Fm) (es : List PySem.Expr) (pos : Pos) (ε : En) (Q : Bool → Hp → Prop) (b : Bool) (H : Hp) : Prop where
  (yes : b = true → Q true H) (no : b = false → T1 prog w f (.BoolOp .Or es pos) ε H Q)
noncomputable abbrev NotQ (Q : Bool → Hp → Prop) : Bool → Hp → Prop := fun b H => Q (!b) H
noncomputable abbrev ValP (Q : Bool → Hp → Prop) : AV → Hp → Prop := fun v H₁ => (∃ b, v = .bool b ∧ Q b H₁) ∨ ∃ a l, v = .ref a ∧ H₁ a = some (.list l) ∧ l.length < 1000000 ∧ Q (!l.isEmpty) H₁
theorem e_cmp {l r : PySem.Expr} {op : CmpOp} {pos : Pos} {Q : AV → Hp → Prop} (hr : 6 ≤ f.r)
    (h : E1 prog w f l ε H (Two prog w f r ε (CmpP prog w op (BoolQ Q)))) (hb : behindInMarks op r = false := by rfl) : E1 prog w f (.Compare l [op] [r] pos) ε H Q := fun o s m nx S =>
  wpAny_Compare1 (h.use o S fun v s₁ nx₁ av H₁ a b c d q => q.use o b fun u s₂ nx₂ bv H₂ a' b' c' d' ⟨k, q', q''⟩ =>
    q' f s₂ m nx₂ ε v u _ _ o hr b' (d.ext c') d' fun t => ⟨(a.trans a').trans (.toks _ _), nx₂, _, H₂, b'.heapEq rfl, c.trans c', .bool _, q''⟩) hb
theorem t_cmp {l r : PySem.Expr} {op : CmpOp} {pos : Pos} {Q : Bool → Hp → Prop} (hr : 6 ≤ f.r)
    (h : E1 prog w f l ε H (Two prog w f r ε (CmpP prog w op Q))) (hb : behindInMarks op r = false := by rfl) : T1 prog w f (.Compare l [op] [r] pos) ε H Q := fun o s m nx S =>
  wpAny_isTrue_Compare1 (h.use o S fun v s₁ nx₁ av H₁ a b c d q => q.use o b fun u s₂ nx₂ bv H₂ a' b' c' d' ⟨k, q', q''⟩ =>
    q' f s₂ m nx₂ ε v u _ _ o hr b' (d.ext c') d' fun t => wpAny_truthy_bool ⟨(a.trans a').trans (.toks _ _), nx₂, H₂, b'.heapEq rfl, c.trans c', q''⟩) hb
theorem Cmp.same {op : CmpOp} {a b : AV} {c : Bool} (h : ∀ {A : Around} {s : Shared} {nx : Led} {v u : Value} {Q E : Value → Shared → Prop}, VIn nx v a → VIn nx u b → Q (.bool c) s → wpAny (model prog w) A (compareOp op v u) Q E s) : Cmp prog w op a b H c :=
  fun f s m nx ε v u Q E o hr S hv hu k => h hv hu (k s.toks)
theorem c_eq (i j : Int) : Cmp prog w .Eq (.int i) (.int j) H (i == j) := .same fun hv hu q => by obtain ⟨_, rfl⟩ := hv.ofInt; obtain ⟨_, rfl⟩ := hu.ofInt; exact eq_int q
theorem c_ne (i j : Int) : Cmp prog w .NotEq (.int i) (.int j) H (i != j) := .same fun hv hu q => by obtain ⟨_, rfl⟩ := hv.ofInt; obtain ⟨_, rfl⟩ := hu.ofInt; exact ne_int q
theorem c_lt (i j : Int) : Cmp prog w .Lt (.int i) (.int j) H (decide (i < j)) := .same fun hv hu q => by obtain ⟨_, rfl⟩ := hv.ofInt; obtain ⟨_, rfl⟩ := hu.ofInt; exact lt_int q
theorem c_gt (i j : Int) : Cmp prog w .Gt (.int i) (.int j) H (decide (i > j)) := .same fun hv hu q => by obtain ⟨_, rfl⟩ := hv.ofInt; obtain ⟨_, rfl⟩ := hu.ofInt; exact gt_int q
theorem c_ge (i j : Int) : Cmp prog w .GtE (.int i) (.int j) H (decide (i ≥ j)) := .same fun hv hu q => by obtain ⟨_, rfl⟩ := hv.ofInt; obtain ⟨_, rfl⟩ := hu.ofInt; exact ge_int q
theorem c_seq (i j : Str) : Cmp prog w .Eq (.str i) (.str j) H (i == j) := .same fun hv hu q => by obtain ⟨_, rfl⟩ := hv.ofStr; obtain ⟨_, rfl⟩ := hu.ofStr; exact eq_str q
theorem c_sne (i j : Str) : Cmp prog w .NotEq (.str i) (.str j) H (i != j) := .same fun hv hu q => by obtain ⟨_, rfl⟩ := hv.ofStr; obtain ⟨_, rfl⟩ := hu.ofStr; exact ne_str q

/-! tests -/
theorem t_not {e : PySem.Expr} {pos : Pos} {Q : Bool → Hp → Prop} (h : T1 prog w f e ε H (NotQ Q)) : T1 prog w f (.UnaryOp .Not e pos) ε H Q := fun o s m nx S => isTrue_not (wpAny_mono (h o s m nx S) (fun _ _ ⟨a, nx', H', b, c, q⟩ => ⟨a, nx', H', b, c, q⟩) fun _ _ x => x)
theorem t_and0 {pos : Pos} {Q : Bool → Hp → Prop} (q : Q true H) : T1 prog w f (.BoolOp .And [] pos) ε H Q := fun o s m nx S => isTrue_and_nil ⟨.refl s, nx, H, S, .refl _, q⟩
theorem t_or0 {pos : Pos} {Q : Bool → Hp → Prop} (q : Q false H) : T1 prog w f (.BoolOp .Or [] pos) ε H Q := fun o s m nx S => isTrue_or_nil ⟨.refl s, nx, H, S, .refl _, q⟩
theorem t_and {e : PySem.Expr} {es : List PySem.Expr} {pos : Pos} {Q : Bool → Hp → Prop} (h : T1 prog w f e ε H (AndP prog w f es pos ε Q)) : T1 prog w f (.BoolOp .And (e :: es) pos) ε H Q := fun o s m nx S =>
  isTrue_and (h.use o S fun b s₁ nx₁ H₁ a S₁ c q => by
    cases b with
    | false => exact ⟨a, nx₁, H₁, S₁, c, q.1 rfl⟩
    | true => exact wpAny_mono (q.2 rfl o s₁ m nx₁ S₁) (fun b s₂ ⟨x, nx₂, H₂, y, z, t⟩ => ⟨a.trans x, nx₂, H₂, y, c.trans z, t⟩) fun _ _ x => x)
theorem t_or {e : PySem.Expr} {es : List PySem.Expr} {pos : Pos} {Q : Bool → Hp → Prop} (h : T1 prog w f e ε H (OrP prog w f es pos ε Q)) : T1 prog w f (.BoolOp .Or (e :: es) pos) ε H Q := fun o s m nx S =>
  isTrue_or (h.use o S fun b s₁ nx₁ H₁ a S₁ c q => by
    cases b with
    | true => exact ⟨a, nx₁, H₁, S₁, c, q.1 rfl⟩
    | false => exact wpAny_mono (q.2 rfl o s₁ m nx₁ S₁) (fun b s₂ ⟨x, nx₂, H₂, y, z, t⟩ => ⟨a.trans x, nx₂, H₂, y, c.trans z, t⟩) fun _ _ x => x)
/-- a value as a test: a bool, an int, a list -/
theorem t_val {e : PySem.Expr} {Q : Bool → Hp → Prop} (h : E1 prog w f e ε H (ValP Q))
    (he : ∀ whole, PySem.isTrue e f.env whole = (do let v ← whole; standAt e.pos; holding [v] (truthy v)) := by intro _; rfl) : T1 prog w f e ε H Q := fun o s m nx S =>
  isTrue_plain (h.use o S fun v s₁ nx₁ av H₁ a S₁ c d q => by
    rcases q with ⟨b, rfl, q⟩ | ⟨x, l, rfl, hx, hl, q⟩
    · obtain rfl := d.ofBool; exact wpAny_truthy_bool ⟨a, nx₁, H₁, S₁, c, q⟩
    · obtain rfl := d.ofRef
      obtain ⟨ob, hm, ho⟩ := S₁.obj _ _ hx
      obtain ⟨vs, n, rfl, va⟩ := ho.ofList
      focus
        have e1 := va.length
        refine wpAny_truthy_list (items := vs.toArray) ⟨_, S₁.mem hm, rfl, _, rfl⟩ (by rw [List.size_toArray]; omega) ?_
        have e2 : (!vs.toArray.isEmpty) = !l.isEmpty := by
          cases va <;> rfl
        rw [e2]
        exact ⟨a.trans (.toks _ _), nx₁, H₁, S₁.heapEq rfl, c, q⟩) (he _)

/-! fields -/
noncomputable def attrOk (K : Frag) (C : Addr) (x : Str) : Bool := plainGet K C x && hasDictIn K C && findIn K (.ref C) x == some none
theorem attrOk.of {K : Frag} {C : Addr} {x : Str} (h : attrOk K C x = true) : plainGet K C x = true ∧ hasDictIn K C = true ∧ findIn K (.ref C) x = some none := by
  unfold attrOk at h
  simp only [Bool.and_eq_true, beq_iff_eq] at h
  exact ⟨h.1.1, h.1.2, h.2⟩
theorem VIn.handed {v : Value} {d : AV} (h : VIn nx v d) : handedIn v = true := by cases h <;> rfl
theorem St.inst (S : St prog w f s m nx ε H) {x C dx : Addr} {fs : List (Str × AV)} (h1 : H x = some (.inst C dx)) (h2 : H dx = some (.ns fs)) :
    ∃ es n, NsIn nx es fs ∧ (x, instObj C dx) ∈ nx ∧ (dx, dictOf es n) ∈ nx ∧ W.InstAt s.heap x (instObj C dx) C (some (dictOf es n)) ∧ fs.length ≤ 100 := by
  obtain ⟨o1, m1, i1⟩ := S.obj _ _ h1
  obtain ⟨o2, m2, i2⟩ := S.obj _ _ h2
  obtain rfl := i1.ofInst
  obtain ⟨_, _, rfl, a, b⟩ := i2.ofNs
  exact ⟨_, _, a, m1, m2, W.InstAt.of_news S.N m1 m2, b⟩
theorem getAttr_own (o : f.Ok w) (S : St prog w f s m nx ε H) {x C dx : Addr} {fs : List (Str × AV)} {name : Str} {av : AV} {b : Bool} {Q E : Value → Shared → Prop} (h1 : H x = some (.inst C dx)) (h2 : H dx = some (.ns fs)) (hg : nsGetL name fs = some av)
    (ha : attrOk (KK w) C name = true) (k : ∀ v t, VIn nx v av → Q v { s with toks := t }) : wpAny (model prog w) f.A (getAttr (.ref x) name b) Q E s := by
  obtain ⟨es, n, i1, m1, m2, I, _⟩ := S.inst h1 h2
  obtain ⟨a1, a2, a3⟩ := attrOk.of ha
  have g := i1.get name
  rw [hg] at g
  obtain ⟨v, g1, g2⟩ := g
  exact get_own S.F o.X I a1 a2 a3 rfl g1 g2.handed (k v _ g2)
inductive AttrP (K : Frag) (name : Str) (Q : AV → Hp → Prop) (v : AV) (H : Hp) : Prop
  | intro (x C dx : Addr) (fs : List (Str × AV)) (av : AV) : v = .ref x → H x = some (.inst C dx) → H dx = some (.ns fs) → attrOk K C name = true → nsGetL name fs = some av → Q av H → AttrP K name Q v H
theorem e_attr {e : PySem.Expr} {name : Str} {pos : Pos} {Q : AV → Hp → Prop} (h : E1 prog w f e ε H (AttrP (KK w) name Q))
    (he : eval (.Attribute e name pos) f.env = (do let o ← eval e f.env; standAt pos.atName; let r ← holding [o] (getAttr o name true); letTemporaryGo e o r; pure r) := by rfl) : E1 prog w f (.Attribute e name pos) ε H Q := fun o s m nx S =>
  Attribute_any_ (h.use o S fun v s₁ nx₁ av H₁ a S₁ c d ⟨x, C, dx, fs, bv, e1, h1, h2, h3, h4, q⟩ => by
    subst e1; obtain rfl := d.ofRef
    exact getAttr_own o S₁ h1 h2 h4 h3 fun v t hv => ⟨a.trans (.toks _ _), nx₁, bv, H₁, S₁.heapEq rfl, c, hv, q⟩) he

/-! items -/
theorem seqIndex_nat (k n : Nat) (h : k < n) : seqIndex? (k : Int) n = some k := by
  unfold seqIndex?
  have h1 : ¬ ((k : Int) < 0) := by omega
  simp only [h1, if_false]
  have h2 : (decide (0 ≤ (k : Int)) && decide ((k : Int) < (n : Int))) = true := by simp; omega
  rw [if_pos h2]
  rfl
inductive ItemP (Q : AV → Hp → Prop) (v u : AV) (H : Hp) : Prop
  | intro (k : Nat) (l : List AV) (d : AV) : u = .int (k : Int) → k < 1000000 → l[k]? = some d → Q d H → (v = .tup l ∨ ∃ a, v = .ref a ∧ H a = some (.list l)) → ItemP Q v u H
/-- an item of a tuple or of a list -/
theorem e_item {e i : PySem.Expr} {pos : Pos} {Q : AV → Hp → Prop} (h : E1 prog w f e ε H (Two prog w f i ε (ItemP Q)))
    (hs : ∀ a k t, subscripted i false (.ref a) (.int k t) = operate [.ref a, .int k t] (getItem (.ref a) (.int k t)) := by intros; rfl)
    (ht : ∀ a r, letTemporaryGo e (.ref a) r = pure () := by intros; rfl) : E1 prog w f (.Subscript e i pos) ε H Q := fun o s m nx S =>
  Subscript_ (h.use o S fun v s₁ nx₁ av H₁ a S₁ c d q => q.use o S₁ fun u s₂ nx₂ bv H₂ a' S₂ c' d' ⟨k, l, dd, e1, hk, hl, hq, hv⟩ => by
    subst e1; obtain ⟨_, rfl⟩ := d'.ofInt
    have dv := d.ext c'
    rcases hv with rfl | ⟨x, rfl, hx⟩
    · obtain ⟨ad, vs, n, rfl, hm, va⟩ := dv.ofTup
      focus
        obtain ⟨v', hv1, hv2⟩ := va.get hl
        have hlt : k < vs.length := (List.getElem?_eq_some_iff.mp hv1).1
        refine item_tupleL (l := vs) (j := k) ⟨_, S₂.mem hm, rfl, _, rfl⟩ (by omega) (by omega) (seqIndex_nat k _ hlt) hv1 ⟨a.trans a', nx₂, dd, H₂, S₂, c.trans c', hv2, hq⟩ (hs _ _ _) (ht _)
    · obtain rfl := dv.ofRef
      obtain ⟨ob, hm, ho⟩ := S₂.obj _ _ hx
      obtain ⟨vs, n, rfl, va⟩ := ho.ofList
      focus
        obtain ⟨v', hv1, hv2⟩ := va.get hl
        refine item_listL (l := vs) ⟨_, S₂.mem hm, rfl, _, rfl⟩ (by omega) (by omega) (by simpa using hv1) ⟨a.trans a', nx₂, dd, H₂, S₂, c.trans c', hv2, hq⟩ (hs _ _ _) (ht _))
end
end Mine
set_option Elab.async false
set_option linter.unusedVariables false
set_option maxRecDepth 100000
namespace Mine
open PySem PySem.W PySem.Calls PySem.Spec PyProof.Rows
section
variable {prog : Program} {w : World} {f : Fm} {ε : En} {H : Hp} {s s' : Shared} {m : Str → Option Value} {nx nx' : Led}

/-- a call of a value -/
noncomputable def CV (prog : Program) (w : World) (f : Fm) (fv : Value) (args : List AV) (ε : En) (H : Hp) (Q : AV → Hp → Prop) : Prop :=
  f.Ok w → ∀ s m nx vs, St prog w f s m nx ε H → VAll nx vs args → wpAny (model prog w) f.A (call fv vs) (PE prog w f s m nx ε Q) Bot s
/-- a def keeps its word -/
noncomputable def Ct (prog : Program) (w : World) (fa : Addr) (n : Nat) (args : List AV) (H : Hp) (Q : AV → Hp → Prop) : Prop :=
  ∀ (f : Fm) (A : Around) (s : Shared) (m : Str → Option Value) (nx : Led) (ε : En) (vs : List Value) (R : Result → Shared → Prop), f.Ok w → A.frames = f.A.frames → A.handled = none → A.depth + n < recursionLimit → A.units + 12 * n < cLine →
    St prog w f s m nx ε H → VAll nx vs args → (∀ v s', PE prog w f s m nx ε Q v s' → R (.ok (.ret v)) s') → codeAny (model prog w) A (.call (.ref fa) ⟨vs, []⟩) R s
theorem cv_def {fa : Addr} {n : Nat} {args : List AV} {Q : AV → Hp → Prop} (h : Ct prog w fa n args H Q) (hn : n ≤ f.r) : CV prog w f (.ref fa) args ε H Q := fun o s m nx vs S hv =>
  wpAny_call (h f f.A s m nx ε vs _ o rfl o.hh (by have := o.dep; omega) (by have := o.un; omega) S hv fun v s' x => x)
theorem str_beq_comm (a b : Str) : (a == b) = (b == a) := by
  by_cases h : a = b
  · subst h; rfl
  · have h' : ¬ b = a := fun e => h e.symm
    rw [beq_eq_false_iff_ne.mpr h, beq_eq_false_iff_ne.mpr h']
inductive VPairs (nx : Led) : List (Str × Value) → En → Prop
  | nil : VPairs nx [] []
  | cons {x : Str} {v : Value} {d : AV} {ps : List (Str × Value)} {es : En} : VIn nx v d → VPairs nx ps es → VPairs nx ((x, v) :: ps) ((x, d) :: es)
theorem VPairs.zip {nx : Led} : ∀ {vs : List Value} {args : List AV} (names : List Str), VAll nx vs args → VPairs nx (names.zip vs) (names.zip args)
  | _, _, [], _ => .nil
  | _, _, _ :: _, .nil => .nil
  | _, _, _ :: r, .cons a h => .cons a (VPairs.zip r h)
theorem VPairs.append {nx : Led} : ∀ {ps : List (Str × Value)} {es : En} {qs : List (Str × Value)} {fs : En}, VPairs nx ps es → VPairs nx qs fs → VPairs nx (ps ++ qs) (es ++ fs)
  | _, _, _, _, .nil, h => h
  | _, _, _, _, .cons a r, h => .cons a (r.append h)
theorem VPairs.reverse {nx : Led} : ∀ {ps : List (Str × Value)} {es : En}, VPairs nx ps es → VPairs nx ps.reverse es.reverse
  | _, _, .nil => .nil
  | _, _, .cons a r => by rw [List.reverse_cons, List.reverse_cons]; exact r.reverse.append (.cons a .nil)
theorem VPairs.get {nx : Led} : ∀ {ps : List (Str × Value)} {es : En}, VPairs nx ps es → ∀ {x : Str} {av : AV}, es.get x = some av → ∃ v, ps.lookup x = some v ∧ VIn nx v av
  | _, _, .nil, x, av, e => by cases e
  | _, _, .cons (x := y) (v := v) (d := d) a r, x, av, e => by
    unfold En.get nsGetL at e
    dsimp only at e
    rw [List.lookup_cons, str_beq_comm]
    cases q : y == x with
    | true => rw [q] at e; simp only [if_true, Option.some.injEq] at e; subst e; exact ⟨v, rfl, a⟩
    | false => rw [q] at e; simp only [Bool.false_eq_true, if_false] at e; exact r.get e

/-- what comes back of a body -/
noncomputable def FV.back : FV → AV
  | .ret v => v
  | _ => .none
noncomputable def flB (fl : Flow) : Value := match fl with
  | .ret v => v
  | _ => .none
theorem FlIn.back {fl : Flow} {fv : FV} (d : FlIn nx fl fv) : VIn nx (flB fl) fv.back := by cases d <;> first | exact .none | assumption
/-- the frame of a call -/
noncomputable abbrev Fm.enter (f : Fm) (A : Around) (g : Heap) (L fa : Addr) (qual : Str) (scope : Scope) (cd : Value) (n : Nat) : Fm :=
  { f with A₀ := A, A := A.deeper (envX qual scope L fa cd []), h₀ := g, outer := f.env :: f.outer, L := L, a := fa, name := qual, scope := scope, cd := cd, cl := [], r := n }
theorem ct_def {fa : Addr} {n : Nat} {args : List AV} {Q : AV → Hp → Prop} {name qual : Str} {params : Arguments} {body : List Stmt} {scope : Scope} {dV kV doc pm cdv ct oc : Value} {an od : Option Addr} {osl : Array (Option Value)}
    (ho : (KK w).lookup fa = some ⟨oc, od, .func (fnOf name qual params body scope dV kV doc pm an cdv ct), osl⟩) (hcd : codeIn (KK w) cdv qual = true)
    (hbind : ∀ vs : List Value, vs.length = args.length → bindArgs (fnOf name qual params body scope dV kV doc pm an cdv ct) ⟨vs, []⟩ = pure ((params.args.map (·.arg)).zip vs))
    (hloc : ((params.args.map (·.arg)).all fun x => decide (scope.names.lookup x = some .local)) = true)
    (hc : scope.isCoroutine = false) (hg : scope.isGenerator = false) (hk : scope.kind = .function) (hcell : (scope.names.all fun x => decide (x.2 ≠ .cell)) = true)
    (h : ∀ (f : Fm) (A : Around) (g : Heap) (L : Addr), S1 prog w (f.enter A g L fa qual scope cdv n) (execs body (f.enter A g L fa qual scope cdv n).env) ((params.args.map (·.arg)).zip args).reverse H fun fv _ H' => Q fv.back H') :
    Ct prog w fa (n + 1) args H Q := fun f A s m nx ε vs R o hA hh hd hu S hv r => by
  have hframes : A.frames = some (f.env :: f.outer) := hA.trans o.frames
  refine code_def o.B S.F o.X S.N o.T hframes rfl o.kind ho hcd (by omega) (BindsTo.of_eq (hbind vs hv.length)) ?_ ?_ hc hg hk ?_
  · intro y hy
    have h1 := List.of_mem_zip hy
    exact of_decide_eq_true (List.all_eq_true.mp hloc _ h1.1)
  · intro g L' h₁ FG F' N' B' X' T'
    have ok : (f.enter A g L' fa qual scope cdv n).Ok w := ⟨B', X', T', by show (A.deeper _).frames = _; unfold Around.deeper; rw [hframes]; rfl, hh, hk, by show (A.deeper _).depth + n < _; unfold Around.deeper; dsimp only; omega, by show (A.deeper _).units + 12 * n < _; unfold Around.deeper; dsimp only; omega⟩
    have st : St prog w (f.enter A g L' fa qual scope cdv n) { s with heap := h₁, toks := s.toks + ((params.args.map (·.arg)).zip vs).length } (fun y => ((params.args.map (·.arg)).zip vs).reverse.lookup y) nx ((params.args.map (·.arg)).zip args).reverse H :=
      ⟨F', N', fun x av e => (VPairs.zip _ hv).reverse.get e, S.obj, S.own⟩
    refine (h f A g L').use ok st fun fl s' m' nx' fv ε' H' a S' c d q => ?_
    refine leaveK_ S'.F S'.N fun FL NL => ?_
    refine r _ _ ⟨Same.trans ⟨_, _, rfl⟩ a, nx', _, H', ⟨FL, NL, fun x av e => let ⟨v, h1, h2⟩ := S.loc x av e; ⟨v, h1, h2.ext c⟩, S'.obj, S'.own⟩, c, d.back, q⟩
  · intro x hx
    exact of_decide_eq_true (List.all_eq_true.mp hcell _ hx)

/-- an own class is made -/
theorem cv_make {C fI : Addr} {n : Nat} {args : List AV} {Q : AV → Hp → Prop} (hm : makesIn (KK w) C = true) (hi : findIn (KK w) (.ref C) "__init__" = some (some (.ref fI))) (hf : isFn (KK w) (.ref fI) = true) (hn : n + 1 ≤ f.r)
    (h : ∀ x dx, H x = none → H dx = none → x ≠ dx → Ct prog w fI n (.ref x :: args) ((H.put dx (.ns [])).put x (.inst C dx)) fun v H' => v = .none ∧ Q (.ref x) H') : CV prog w f (.ref C) args ε H Q := fun o s m nx vs S hv =>
  call_cls S.F o.X S.N hm hi hf fun x dx h' F' N' l1 l2 => by
    have N1 : News f.h₀ f.L h' ((dx, dictOf [] 0) :: nx) := fun p hp => N' p (.tail _ hp)
    have S1 : St prog w f { s with heap := h' } m ((dx, dictOf [] 0) :: nx) ε (H.put dx (.ns [])) := S.new (s' := { s with heap := h' }) F' N1 rfl l1 (.ns .nil (by simp))
    have hx : ∀ p ∈ ((dx, dictOf [] 0) :: nx : Led), p.1 < x := fun p hp => by
      rcases List.mem_cons.mp hp with rfl | hp
      · exact l2
      · exact Nat.lt_trans (l1 p hp) l2
    have S2 : St prog w f { s with heap := h' } m ((x, instObj C dx) :: (dx, dictOf [] 0) :: nx) ε ((H.put dx (.ns [])).put x (.inst C dx)) := S1.new (s' := { s with heap := h' }) F' N' rfl hx (.inst C dx)
    have e1 : (A : Around) → (A.under (.builtin "type.__call__" ⟨.ref C :: vs, []⟩)).frames = A.frames := fun A => rfl
    have e2 : (A : Around) → (A.under (.builtin "type.__call__" ⟨.ref C :: vs, []⟩)).handled = A.handled := fun A => rfl
    have e3 := fun A => depth_under_kw A C vs []
    have e4 : (A : Around) → (A.under (.builtin "type.__call__" ⟨.ref C :: vs, []⟩)).units ≤ A.units + 3 := fun A => by
      have e : (A.under (.builtin "type.__call__" ⟨.ref C :: vs, []⟩)).units = A.units + 1 := rfl
      omega
    refine h x dx (S.fresh fun p hp => Nat.lt_trans (l1 p hp) l2) (S.fresh l1) (Nat.ne_of_gt l2) f _ { s with heap := h' } m _ ε (.ref x :: vs) _ o (e1 _) ((e2 _).trans o.hh) ?_ ?_ S2 (.cons (.ref x) (hv.ext ((Ext.cons _ _).trans (Ext.cons _ _)))) fun v s' ⟨a, nx', av, H', p, q, t, ⟨u1, u2⟩⟩ => ?_
    · rw [e3]; have := o.dep; omega
    · have := e4 f.A; have := o.un; omega
    · subst u1; obtain rfl := t.ofNone
      exact ⟨rfl, Same.trans ⟨_, _, rfl⟩ a, nx', .ref x, H', p, ((Ext.cons _ _).trans (Ext.cons _ _)).trans q, .ref x, u2⟩

noncomputable abbrev CallQ (prog : Program) (w : World) (f : Fm) (fv : Value) (ε : En) (Q : AV → Hp → Prop) : List AV → Hp → Prop := fun vs H₁ => CV prog w f fv vs ε H₁ Q
noncomputable abbrev MethQ (prog : Program) (w : World) (f : Fm) (fv : Value) (x : Addr) (ε : En) (Q : AV → Hp → Prop) : List AV → Hp → Prop := fun vs H₁ => CV prog w f fv (.ref x :: vs) ε H₁ Q
/-! the shape of a call -/
theorem e_call {x : Str} {p pos : Pos} {fa : Value} {es : List PySem.Expr} {e : PySem.Expr} {Q : AV → Hp → Prop} (hg : nsIn (KK w) mainGlobals x = some (some fa)) (hk : keepIn (KK w) fa = true) (hx : f.env.kindOf x = some .globalImplicit)
    (h : ES prog w f (e :: es) ε H (CallQ prog w f fa ε Q)) (hd : (x == ("__debug__" : Str)) = false := by decide)
    (he : eval (.Call (.Name x p) (e :: es) [] pos) f.env = (do let v ← eval (.Name x p) f.env; callWith pos v [] (backTo pos (starEach (e :: es) f.env)) (backToKw pos (keywordEach [] f.env))) := by rfl)
    (h1 : starEach (e :: es) f.env = (false, eval e f.env) :: starEach es f.env := by rfl) (h2 : (backTo pos (starEach es f.env)).any (·.1) = false := by rfl) : E1 prog w f (.Call (.Name x p) (e :: es) [] pos) ε H Q := fun o s m nx S =>
  Call_ (nameX_K S.F o.X (topRead_of o.T) hg (callWith_K (h₀ := f.h₀) o.X hk (h.use o S fun vs s₁ nx₁ avs H₁ a S₁ c d q => ⟨S₁.X o, wpAny_mono (q o s₁ m nx₁ vs S₁ d) (fun v s₂ y => y.pre a c) fun _ _ x => x⟩) h1 h2) o.kind hx hd) he
theorem e_call0 {x : Str} {p pos : Pos} {fa : Value} {Q : AV → Hp → Prop} (hg : nsIn (KK w) mainGlobals x = some (some fa)) (hk : keepIn (KK w) fa = true) (hx : f.env.kindOf x = some .globalImplicit)
    (h : CV prog w f fa [] ε H Q) (hd : (x == ("__debug__" : Str)) = false := by decide)
    (he : eval (.Call (.Name x p) [] [] pos) f.env = (do let v ← eval (.Name x p) f.env; callWith pos v [] (backTo pos (starEach [] f.env)) (backToKw pos (keywordEach [] f.env))) := by rfl) : E1 prog w f (.Call (.Name x p) [] [] pos) ε H Q := fun o s m nx S =>
  Call_ (nameX_K S.F o.X (topRead_of o.T) hg (callWith_K0 (S.X o) hk (h o s m nx [] S .nil)) o.kind hx hd) he
/-- a built-in function by its name -/
theorem e_callB {x : Str} {p pos : Pos} {id : String} {es : List PySem.Expr} {e : PySem.Expr} {Q : AV → Hp → Prop} (hg : nsIn (KK w) mainGlobals x = some none) (hb : bootBuiltins x = some (.builtin id)) (hn : x ≠ "__name__") (hx : f.env.kindOf x = some .globalImplicit)
    (h : ES prog w f (e :: es) ε H (CallQ prog w f (.builtin id) ε Q)) (hd : (x == ("__debug__" : Str)) = false := by decide)
    (he : eval (.Call (.Name x p) (e :: es) [] pos) f.env = (do let v ← eval (.Name x p) f.env; callWith pos v [] (backTo pos (starEach (e :: es) f.env)) (backToKw pos (keywordEach [] f.env))) := by rfl)
    (h1 : starEach (e :: es) f.env = (false, eval e f.env) :: starEach es f.env := by rfl) (h2 : (backTo pos (starEach es f.env)).any (·.1) = false := by rfl) : E1 prog w f (.Call (.Name x p) (e :: es) [] pos) ε H Q := fun o s m nx S =>
  Call_ (nameX_B S.F o.X (topRead_of o.T) hg hb hn (PyProof.Rows.callWith_builtin1 (h.use o S fun vs s₁ nx₁ avs H₁ a S₁ c d q => wpAny_mono (q o s₁ m nx₁ vs S₁ d) (fun v s₂ y => y.pre a c) fun _ _ x => x) h1 h2) o.kind hx hd) he
theorem e_callT {x : Str} {p pos : Pos} {id : String} {es : List PySem.Expr} {e : PySem.Expr} {Q : AV → Hp → Prop} (hg : nsIn (KK w) mainGlobals x = some none) (hb : bootBuiltins x = some (.type id)) (hn : x ≠ "__name__") (hx : f.env.kindOf x = some .globalImplicit)
    (h : ES prog w f (e :: es) ε H (CallQ prog w f (.type id) ε Q)) (hd : (x == ("__debug__" : Str)) = false := by decide)
    (he : eval (.Call (.Name x p) (e :: es) [] pos) f.env = (do let v ← eval (.Name x p) f.env; callWith pos v [] (backTo pos (starEach (e :: es) f.env)) (backToKw pos (keywordEach [] f.env))) := by rfl)
    (h1 : starEach (e :: es) f.env = (false, eval e f.env) :: starEach es f.env := by rfl) (h2 : (backTo pos (starEach es f.env)).any (·.1) = false := by rfl) : E1 prog w f (.Call (.Name x p) (e :: es) [] pos) ε H Q := fun o s m nx S =>
  Call_ (nameX_B S.F o.X (topRead_of o.T) hg hb hn (PyProof.Rows.callWith_type1 (h.use o S fun vs s₁ nx₁ avs H₁ a S₁ c d q => wpAny_mono (q o s₁ m nx₁ vs S₁ d) (fun v s₂ y => y.pre a c) fun _ _ x => x) h1 h2) o.kind hx hd) he
theorem e_callT0 {x : Str} {p pos : Pos} {id : String} {Q : AV → Hp → Prop} (hg : nsIn (KK w) mainGlobals x = some none) (hb : bootBuiltins x = some (.type id)) (hn : x ≠ "__name__") (hx : f.env.kindOf x = some .globalImplicit)
    (h : CV prog w f (.type id) [] ε H Q) (hd : (x == ("__debug__" : Str)) = false := by decide)
    (he : eval (.Call (.Name x p) [] [] pos) f.env = (do let v ← eval (.Name x p) f.env; callWith pos v [] (backTo pos (starEach [] f.env)) (backToKw pos (keywordEach [] f.env))) := by rfl) : E1 prog w f (.Call (.Name x p) [] [] pos) ε H Q := fun o s m nx S =>
  Call_ (nameX_B S.F o.X (topRead_of o.T) hg hb hn (callWith_type0 (h o s m nx [] S .nil)) o.kind hx hd) he

/-- a method of an own class -/
noncomputable def methOk (K : Frag) (C : Addr) (x : Str) (fa : Addr) : Bool := plainGet K C x && findIn K (.ref C) x == some (some (.ref fa)) && isFn K (.ref fa) && keepIn K (.ref fa)
theorem methOk.of {K : Frag} {C fa : Addr} {x : Str} (h : methOk K C x fa = true) : plainGet K C x = true ∧ findIn K (.ref C) x = some (some (.ref fa)) ∧ isFn K (.ref fa) = true ∧ keepIn K (.ref fa) = true := by
  unfold methOk at h
  simp only [Bool.and_eq_true, beq_iff_eq] at h
  exact ⟨h.1.1.1, h.1.1.2, h.1.2, h.2⟩
inductive MethP (prog : Program) (w : World) (f : Fm) (es : List PySem.Expr) (name : Str) (ε : En) (Q : AV → Hp → Prop) (v : AV) (H : Hp) : Prop
  | intro (x C dx : Addr) (fs : List (Str × AV)) (fa : Addr) : v = .ref x → H x = some (.inst C dx) → H dx = some (.ns fs) → methOk (KK w) C name fa = true → nsGetL name fs = none → ES prog w f es ε H (MethQ prog w f (.ref fa) x ε Q) → MethP prog w f es name ε Q v H
inductive Meth0P (prog : Program) (w : World) (f : Fm) (name : Str) (ε : En) (Q : AV → Hp → Prop) (v : AV) (H : Hp) : Prop
  | intro (x C dx : Addr) (fs : List (Str × AV)) (fa : Addr) : v = .ref x → H x = some (.inst C dx) → H dx = some (.ns fs) → methOk (KK w) C name fa = true → nsGetL name fs = none → CV prog w f (.ref fa) [.ref x] ε H Q → Meth0P prog w f name ε Q v H
theorem e_meth {e a : PySem.Expr} {es : List PySem.Expr} {name : Str} {apos pos : Pos} {pl : Sem Bool} {Q : AV → Hp → Prop}
    (h : E1 prog w f e ε H (MethP prog w f (a :: es) name ε Q))
    (he : eval (.Call (.Attribute e name apos) (a :: es) [] pos) f.env = (do let ov ← eval e f.env; standAt apos.atName; let (g, first) ← holding [ov] (getMethod ov name pl); callWith pos g first (backTo pos (starEach (a :: es) f.env)) []) := by rfl)
    (h1 : starEach (a :: es) f.env = (false, eval a f.env) :: starEach es f.env := by rfl) (h2 : (backTo pos (starEach es f.env)).any (·.1) = false := by rfl) : E1 prog w f (.Call (.Attribute e name apos) (a :: es) [] pos) ε H Q := fun o s m nx S =>
  MethodCall_ (pl := pl) (h.use o S fun v s₁ nx₁ av H₁ b S₁ c d ⟨x, C, dx, fs, fa, e1, i1, i2, hm, hg, q⟩ => by
    subst e1; obtain rfl := d.ofRef
    obtain ⟨es', n, k1, k2, k3, I, _⟩ := S₁.inst i1 i2
    obtain ⟨m1, m2, m3, m4⟩ := methOk.of hm
    have g := k1.get name
    rw [hg] at g
    exact method_inst S₁.F o.X I m1 m2 m3 g (callWith_K (h₀ := f.h₀) o.X m4 (q.use o S₁ fun vs s₂ nx₂ avs H₂ b' S₂ c' d' q' =>
      ⟨S₂.X o, wpAny_mono (q' o s₂ m nx₂ (.ref x :: vs) S₂ (.cons (.ref x) d')) (fun v s₃ y => y.pre (b.trans b') (c.trans c')) fun _ _ x => x⟩) h1 h2)) he
theorem e_meth0 {e : PySem.Expr} {name : Str} {apos pos : Pos} {pl : Sem Bool} {Q : AV → Hp → Prop}
    (h : E1 prog w f e ε H (Meth0P prog w f name ε Q))
    (he : eval (.Call (.Attribute e name apos) [] [] pos) f.env = (do let ov ← eval e f.env; standAt apos.atName; let (g, first) ← holding [ov] (getMethod ov name pl); callWith pos g first (backTo pos (starEach [] f.env)) []) := by rfl) : E1 prog w f (.Call (.Attribute e name apos) [] [] pos) ε H Q := fun o s m nx S =>
  MethodCall_ (pl := pl) (h.use o S fun v s₁ nx₁ av H₁ b S₁ c d ⟨x, C, dx, fs, fa, e1, i1, i2, hm, hg, q⟩ => by
    subst e1; obtain rfl := d.ofRef
    obtain ⟨es', n, k1, k2, k3, I, _⟩ := S₁.inst i1 i2
    obtain ⟨m1, m2, m3, m4⟩ := methOk.of hm
    have g := k1.get name
    rw [hg] at g
    exact method_inst S₁.F o.X I m1 m2 m3 g (callWith_K0 (S₁.X o) m4 (wpAny_mono (q o s₁ m nx₁ [.ref x] S₁ (.cons (.ref x) .nil)) (fun v s₃ y => y.pre b c) fun _ _ x => x))) he
/-- a method of a built-in type -/
noncomputable def MB (prog : Program) (w : World) (H : Hp) (x : Addr) (name : Str) (id : String) : Prop :=
  ∀ (f : Fm) (s : Shared) (m : Str → Option Value) (nx : Led) (ε : En) (pl : Sem Bool) (Q : Value × List Value → Shared → Prop) (E : Value → Shared → Prop), St prog w f s m nx ε H → Q (.builtin id, [.ref x]) s → wpAny (model prog w) f.A (getMethod (.ref x) name pl) Q E s
inductive MethBP (prog : Program) (w : World) (f : Fm) (es : List PySem.Expr) (name : Str) (ε : En) (Q : AV → Hp → Prop) (v : AV) (H : Hp) : Prop
  | intro (x : Addr) (id : String) : v = .ref x → MB prog w H x name id → ES prog w f es ε H (MethQ prog w f (.builtin id) x ε Q) → MethBP prog w f es name ε Q v H
inductive MethB0P (prog : Program) (w : World) (f : Fm) (name : Str) (ε : En) (Q : AV → Hp → Prop) (v : AV) (H : Hp) : Prop
  | intro (x : Addr) (id : String) : v = .ref x → MB prog w H x name id → CV prog w f (.builtin id) [.ref x] ε H Q → MethB0P prog w f name ε Q v H
theorem e_methB {e a : PySem.Expr} {es : List PySem.Expr} {name : Str} {apos pos : Pos} {pl : Sem Bool} {Q : AV → Hp → Prop}
    (h : E1 prog w f e ε H (MethBP prog w f (a :: es) name ε Q))
    (he : eval (.Call (.Attribute e name apos) (a :: es) [] pos) f.env = (do let ov ← eval e f.env; standAt apos.atName; let (g, first) ← holding [ov] (getMethod ov name pl); callWith pos g first (backTo pos (starEach (a :: es) f.env)) []) := by rfl)
    (h1 : starEach (a :: es) f.env = (false, eval a f.env) :: starEach es f.env := by rfl) (h2 : (backTo pos (starEach es f.env)).any (·.1) = false := by rfl) : E1 prog w f (.Call (.Attribute e name apos) (a :: es) [] pos) ε H Q := fun o s m nx S =>
  MethodCall_ (pl := pl) (h.use o S fun v s₁ nx₁ av H₁ b S₁ c d ⟨x, id, e1, hm, q⟩ => by
    subst e1; obtain rfl := d.ofRef
    exact hm f s₁ m nx₁ ε pl _ _ S₁ (callWith_method1 (q.use o S₁ fun vs s₂ nx₂ avs H₂ b' S₂ c' d' q' =>
      wpAny_mono (q' o s₂ m nx₂ (.ref x :: vs) S₂ (.cons (.ref x) d')) (fun v s₃ y => y.pre (b.trans b') (c.trans c')) fun _ _ x => x) h1 h2)) he
theorem e_methB0 {e : PySem.Expr} {name : Str} {apos pos : Pos} {pl : Sem Bool} {Q : AV → Hp → Prop}
    (h : E1 prog w f e ε H (MethB0P prog w f name ε Q))
    (he : eval (.Call (.Attribute e name apos) [] [] pos) f.env = (do let ov ← eval e f.env; standAt apos.atName; let (g, first) ← holding [ov] (getMethod ov name pl); callWith pos g first (backTo pos (starEach [] f.env)) []) := by rfl) : E1 prog w f (.Call (.Attribute e name apos) [] [] pos) ε H Q := fun o s m nx S =>
  MethodCall_ (pl := pl) (h.use o S fun v s₁ nx₁ av H₁ b S₁ c d ⟨x, id, e1, hm, q⟩ => by
    subst e1; obtain rfl := d.ofRef
    exact hm f s₁ m nx₁ ε pl _ _ S₁ (callWith_method0 (wpAny_mono (q o s₁ m nx₁ [.ref x] S₁ (.cons (.ref x) .nil)) (fun v s₃ y => y.pre b c) fun _ _ x => x))) he
end
end Mine
set_option Elab.async false
set_option linter.unusedVariables false
set_option maxRecDepth 100000
namespace Mine
open PySem PySem.W PySem.Calls PySem.Spec PyProof.Rows
section
variable {prog : Program} {w : World} {f : Fm} {ε : En} {H : Hp} {s s' : Shared} {m : Str → Option Value} {nx nx' : Led}

theorem PS.pre {s₀ : Shared} {nx₀ : Led} {Q : FV → En → Hp → Prop} {fl : Flow} (h : PS prog w f s nx Q fl s') (a : Same s₀ s) (x : Ext nx₀ nx) : PS prog w f s₀ nx₀ Q fl s' :=
  let ⟨b, m', nx', fv, ε', H', c, d, e, q⟩ := h; ⟨a.trans b, m', nx', fv, ε', H', c, x.trans d, e, q⟩
/-- what is left behind a statement -/
noncomputable def K1 (prog : Program) (w : World) (f : Fm) (rest : List Stmt) (Q : FV → En → Hp → Prop) : FV → En → Hp → Prop := fun fv ε H => match fv with
  | .next => S1 prog w f (execs rest f.env) ε H Q
  | fv => Q fv ε H
noncomputable abbrev RetQ (ε : En) (Q : FV → En → Hp → Prop) : AV → Hp → Prop := fun v H => Q (.ret v) ε H
structure ExprP (ε : En) (Q : FV → En → Hp → Prop) (v : AV) (H : Hp) : Prop where
  (e : v = .none) (q : Q .next ε H)
structure IfP (prog : Program) (w : World) (f : Fm) (b1 b2 : List Stmt) (ε : En) (Q : FV → En → Hp → Prop) (b : Bool) (H : Hp) : Prop where
  (yes : b = true → S1 prog w f (execs b1 f.env) ε H Q) (no : b = false → S1 prog w f (execs b2 f.env) ε H Q)
noncomputable abbrev AsgQ (x : Str) (ε : En) (Q : FV → En → Hp → Prop) : AV → Hp → Prop := fun v H => Q .next ((x, v) :: ε) H
theorem s_nil {Q : FV → En → Hp → Prop} (q : Q .next ε H) : S1 prog w f (execs [] f.env) ε H Q := fun o s m nx S => wpAny_execs_nil ⟨.refl s, m, nx, _, ε, H, S, .refl _, .next, q⟩
theorem s_cons {st : Stmt} {rest : List Stmt} {Q : FV → En → Hp → Prop} (h : S1 prog w f (exec st f.env) ε H (K1 prog w f rest Q)) : S1 prog w f (execs (st :: rest) f.env) ε H Q := fun o s m nx S =>
  wpAny_execs_cons (h.use o S fun fl s₁ m₁ nx₁ fv ε₁ H₁ a S₁ c d q => by
    cases d with
    | next => exact wpAny_mono (q o s₁ m₁ nx₁ S₁) (fun fl s₂ y => PS.pre y a c) fun _ _ x => x
    | cont => exact ⟨a, m₁, nx₁, _, ε₁, H₁, S₁, c, .cont, q⟩
    | brk => exact ⟨a, m₁, nx₁, _, ε₁, H₁, S₁, c, .brk, q⟩
    | ret dv => exact ⟨a, m₁, nx₁, _, ε₁, H₁, S₁, c, .ret dv, q⟩)
theorem s_return {e : PySem.Expr} {pos : Pos} {Q : FV → En → Hp → Prop} (h : E1 prog w f e ε H (RetQ ε Q)) : S1 prog w f (exec (.Return (some e) pos) f.env) ε H Q := fun o s m nx S =>
  wpAny_Return_some (h.use o S fun v s₁ nx₁ av H₁ a S₁ c d q => ⟨a, m, nx₁, _, ε, H₁, S₁, c, .ret d, q⟩)
theorem s_return0 {pos : Pos} {Q : FV → En → Hp → Prop} (q : Q (.ret .none) ε H) : S1 prog w f (exec (.Return none pos) f.env) ε H Q := fun o s m nx S =>
  wpAny_Return_none ⟨.refl s, m, nx, _, ε, H, S, .refl _, .ret .none, q⟩
theorem s_continue {pos : Pos} {Q : FV → En → Hp → Prop} (q : Q .cont ε H) : S1 prog w f (exec (.Continue pos) f.env) ε H Q := fun o s m nx S =>
  wpAny_Continue ⟨.refl s, m, nx, _, ε, H, S, .refl _, .cont, q⟩
theorem s_expr {e : PySem.Expr} {pos : Pos} {Q : FV → En → Hp → Prop} (h : E1 prog w f e ε H (ExprP ε Q)) (hi : interactive f.env = false := by rfl) (hs : swapsWith e none pos.line f.env = pure false := by rfl) :
    S1 prog w f (exec (.Expr e pos) f.env) ε H Q := fun o s m nx S =>
  wpAny_Expr (h.use o S fun v s₁ nx₁ av H₁ a S₁ c d ⟨e1, q⟩ => by subst e1; obtain rfl := d.ofNone; exact ⟨a, m, nx₁, _, ε, H₁, S₁, c, .next, q⟩) hi hs
theorem s_if {e : PySem.Expr} {b1 b2 : List Stmt} {pos : Pos} {Q : FV → En → Hp → Prop} (h : T1 prog w f e ε H (IfP prog w f b1 b2 ε Q)) :
    S1 prog w f (exec (.If e b1 b2 pos) f.env) ε H Q := fun o s m nx S =>
  wpAny_If (h.use o S fun b s₁ nx₁ H₁ a S₁ c q => by
    cases b with
    | true => exact wpAny_mono (q.1 rfl o s₁ m nx₁ S₁) (fun fl s₂ y => PS.pre y a c) fun _ _ x => x
    | false => exact wpAny_mono (q.2 rfl o s₁ m nx₁ S₁) (fun fl s₂ y => PS.pre y a c) fun _ _ x => x)
/-- a name of the frame is stored -/
theorem St.store (S : St prog w f s m nx ε H) {x : Str} {v : Value} {av : AV} {h' : Heap} (F : Fr f.h₀ f.L h' (fun y => if y = x then some v else m y)) (N : News f.h₀ f.L h' nx) (hv : VIn nx v av) (hs : s'.heap = h') :
    St prog w f s' (fun y => if y = x then some v else m y) nx ((x, av) :: ε) H := by
  refine ⟨hs ▸ F, hs ▸ N, fun y bv e => ?_, S.obj, S.own⟩
  unfold En.get nsGetL at e
  dsimp only at e
  by_cases q : y = x
  · subst q
    rw [beq_self_eq_true, if_pos rfl] at e
    cases e
    exact ⟨v, if_pos rfl, hv⟩
  · have q' : (x == y) = false := beq_eq_false_iff_ne.mpr fun z => q z.symm
    rw [q', if_neg Bool.false_ne_true] at e
    obtain ⟨u, h1, h2⟩ := S.loc y bv e
    exact ⟨u, (if_neg q).trans h1, h2⟩
theorem store_ (o : f.Ok w) (S : St prog w f s m nx ε H) {x : Str} {v : Value} {av : AV} (hv : VIn nx v av) (hx : f.env.kindOf x = some .local) {Q : Unit → Shared → Prop} {E : Value → Shared → Prop}
    (k : ∀ s' m', Same s s' → St prog w f s' m' nx ((x, av) :: ε) H → Q () s') : wpAny (model prog w) f.A (storeName f.env x v) Q E s :=
  storeX_L S.F S.N (fun h' F' N' => k _ _ ⟨h', _, rfl⟩ (S.store (s' := { s with heap := h', toks := s.toks + 1 }) F' N' hv rfl)) o.kind hx
theorem s_assign {x : Str} {p pos : Pos} {e : PySem.Expr} {Q : FV → En → Hp → Prop} (hx : f.env.kindOf x = some .local) (h : E1 prog w f e ε H (AsgQ x ε Q)) (hs : swapsWith e (some (.Name x p)) pos.line f.env = pure false := by rfl) :
    S1 prog w f (exec (.Assign [.Name x p] e pos) f.env) ε H Q := fun o s m nx S =>
  wpAny_Assign_Name (h.use o S fun v s₁ nx₁ av H₁ a S₁ c d q => store_ o S₁ d hx fun s' m' a' S' => ⟨a.trans a', m', nx₁, _, _, H₁, S', c, .next, q⟩) hs
inductive AugAP (x : Str) (i : Int) (ε : En) (Q : FV → En → Hp → Prop) (v : AV) (H : Hp) : Prop
  | intro (j : Int) : v = .int j → Q .next ((x, .int (i + j)) :: ε) H → AugAP x i ε Q v H
inductive AugSP (x : Str) (i : Int) (ε : En) (Q : FV → En → Hp → Prop) (v : AV) (H : Hp) : Prop
  | intro (j : Int) : v = .int j → Q .next ((x, .int (i - j)) :: ε) H → AugSP x i ε Q v H
theorem s_augAdd {x : Str} {p pos : Pos} {e : PySem.Expr} {i : Int} {Q : FV → En → Hp → Prop} (hv : ε.get x = some (.int i)) (hx : f.env.kindOf x = some .local) (h : E1 prog w f e ε H (AugAP x i ε Q)) :
    S1 prog w f (exec (.AugAssign (.Name x p) .Add e pos) f.env) ε H Q := fun o s m nx S => by
  obtain ⟨v, h1, h2⟩ := S.loc x _ hv
  obtain ⟨_, rfl⟩ := h2.ofInt
  refine wpAny_AugAssign_Name (wpAny_loadName_local o.kind hx S.F.ns h1 (h.use o S fun v s₁ nx₁ av H₁ a S₁ c d ⟨j, e1, q⟩ => ?_))
  subst e1; obtain ⟨_, rfl⟩ := d.ofInt
  exact iadd_int (store_ o (S₁.heapEq (s' := { s₁ with toks := s₁.toks + 1 }) rfl) (.int _ _) hx fun s' m' a' S' => ⟨a.trans (Same.trans (.toks _ _) a'), m', nx₁, _, _, H₁, S', c, .next, q⟩)
theorem s_augSub {x : Str} {p pos : Pos} {e : PySem.Expr} {i : Int} {Q : FV → En → Hp → Prop} (hv : ε.get x = some (.int i)) (hx : f.env.kindOf x = some .local) (h : E1 prog w f e ε H (AugSP x i ε Q)) :
    S1 prog w f (exec (.AugAssign (.Name x p) .Sub e pos) f.env) ε H Q := fun o s m nx S => by
  obtain ⟨v, h1, h2⟩ := S.loc x _ hv
  obtain ⟨_, rfl⟩ := h2.ofInt
  refine wpAny_AugAssign_Name (wpAny_loadName_local o.kind hx S.F.ns h1 (h.use o S fun v s₁ nx₁ av H₁ a S₁ c d ⟨j, e1, q⟩ => ?_))
  subst e1; obtain ⟨_, rfl⟩ := d.ofInt
  exact isub_int (store_ o (S₁.heapEq (s' := { s₁ with toks := s₁.toks + 1 }) rfl) (.int _ _) hx fun s' m' a' S' => ⟨a.trans (Same.trans (.toks _ _) a'), m', nx₁, _, _, H₁, S', c, .next, q⟩)

/-! fields stored -/
noncomputable def setOk (K : Frag) (C : Addr) (x : Str) : Bool := findIn K (.ref C) "__setattr__" == some (some (.builtin "object.__setattr__")) && plainOver K C && takerIn K C x == some none && hasDictIn K C
theorem setOk.of {K : Frag} {C : Addr} {x : Str} (h : setOk K C x = true) : findIn K (.ref C) "__setattr__" = some (some (.builtin "object.__setattr__")) ∧ plainOver K C = true ∧ takerIn K C x = some none ∧ hasDictIn K C = true := by
  unfold setOk at h
  simp only [Bool.and_eq_true, beq_iff_eq] at h
  exact ⟨h.1.1.1, h.1.1.2, h.1.2, h.2⟩
theorem setAttr_ (o : f.Ok w) (S : St prog w f s m nx ε H) {x C dx : Addr} {fs : List (Str × AV)} {name : Str} {v : Value} {av : AV} {Q : Unit → Shared → Prop} {E : Value → Shared → Prop} (h1 : H x = some (.inst C dx)) (h2 : H dx = some (.ns fs)) (hl : fs.length < 90)
    (ha : setOk (KK w) C name = true) (hv : VIn nx v av) (k : ∀ s' nx', Same s s' → St prog w f s' m nx' ε (H.put dx (.ns (nsPutL name av fs))) → Ext nx nx' → Q () s') : wpAny (model prog w) f.A (setAttr (.ref x) name v) Q E s := by
  obtain ⟨es, n, i1, m1, m2, I, _⟩ := S.inst h1 h2
  obtain ⟨a1, a2, a3, a4⟩ := setOk.of ha
  have g := i1.get name
  have g' : (getL name es).isSome = true := by
    split at g
    · obtain ⟨v, g1, _⟩ := g; rw [g1]; rfl
    · rw [g]; rfl
  have hlen := nsPutL_len name av fs
  have hput : ∀ nx', Ext nx nx' → NsIn nx' (putL name (PyData.keyHash w.params name) (.str name (s.toks + 1)) v es) (nsPutL name av fs) := fun nx' x => NsIn.put (hv.ext x) _ _ _ (i1.ext x)
  refine set_dict S.F o.X (S.focus m2) I rfl a1 a2 a3 a4 g' rfl (Led.upd nx dx _ _) (by have := (hput nx (.refl _)).length; omega) fun h' F' N' => ?_
  obtain ⟨S', x⟩ := S.turnN (s' := { s with heap := h', toks := s.toks + 2 }) h2 m2 F' N' rfl fun nx' x => .ns (hput nx' x) (by omega)
  exact k _ _ ⟨h', _, rfl⟩ S' x
inductive SetAP (K : Frag) (name : Str) (ε : En) (Q : FV → En → Hp → Prop) (v u : AV) (H : Hp) : Prop
  | intro (x C dx : Addr) (fs : List (Str × AV)) : u = .ref x → H x = some (.inst C dx) → H dx = some (.ns fs) → fs.length < 90 → setOk K C name = true → Q .next ε (H.put dx (.ns (nsPutL name v fs))) → SetAP K name ε Q v u H
inductive AugTP (x C dx : Addr) (fs : List (Str × AV)) (i : Int) (name : Str) (ε : En) (Q : FV → En → Hp → Prop) (v : AV) (H : Hp) : Prop
  | intro (j : Int) : v = .int j → H x = some (.inst C dx) → H dx = some (.ns fs) → Q .next ε (H.put dx (.ns (nsPutL name (.int (i + j)) fs))) → AugTP x C dx fs i name ε Q v H
inductive AugNP (prog : Program) (w : World) (f : Fm) (e : PySem.Expr) (name : Str) (ε : En) (Q : FV → En → Hp → Prop) (u : AV) (H : Hp) : Prop
  | intro (x C dx : Addr) (fs : List (Str × AV)) (i : Int) : u = .ref x → H x = some (.inst C dx) → H dx = some (.ns fs) → fs.length < 90 → setOk (KK w) C name = true → attrOk (KK w) C name = true → nsGetL name fs = some (.int i) → E1 prog w f e ε H (AugTP x C dx fs i name ε Q) → AugNP prog w f e name ε Q u H
theorem s_setAttr {e t : PySem.Expr} {name : Str} {p pos : Pos} {Q : FV → En → Hp → Prop}
    (h : E1 prog w f e ε H (Two prog w f t ε (SetAP (KK w) name ε Q)))
    (hs : swapsWith e (some (.Attribute t name p)) pos.line f.env = pure false := by rfl) : S1 prog w f (exec (.Assign [.Attribute t name p] e pos) f.env) ε H Q := fun o s m nx S =>
  plainObj_wpAny_Assign_Attribute (h.use o S fun v s₁ nx₁ av H₁ a S₁ c d q => q.use o S₁ fun u s₂ nx₂ bv H₂ a' S₂ c' d' ⟨x, C, dx, fs, e1, h1, h2, h3, h4, q'⟩ => by
    subst e1; obtain rfl := d'.ofRef
    exact setAttr_ o S₂ h1 h2 h3 h4 (d.ext c') fun s' nx' a'' S' x' => ⟨(a.trans a').trans a'', m, nx', _, ε, _, S', (c.trans c').trans x', .next, q'⟩) hs
theorem s_augAttr {e t : PySem.Expr} {name : Str} {p pos : Pos} {Q : FV → En → Hp → Prop}
    (h : E1 prog w f t ε H (AugNP prog w f e name ε Q)) :
    S1 prog w f (exec (.AugAssign (.Attribute t name p) .Add e pos) f.env) ε H Q := fun o s m nx S =>
  wpAny_AugAssign_AttributeAny (h.use o S fun u s₁ nx₁ bv H₁ a S₁ c d ⟨x, C, dx, fs, i, e1, h1, h2, h3, h4, h5, h6, q⟩ => by
    subst e1; obtain rfl := d.ofRef
    refine getAttr_own o S₁ h1 h2 h6 h5 fun v t hv => ?_
    obtain ⟨_, rfl⟩ := hv.ofInt
    refine q.use o (S₁.heapEq (s' := { s₁ with toks := t }) rfl) fun v s₂ nx₂ av H₂ a' S₂ c' d' ⟨j, e2, k1, k2, q'⟩ => ?_
    subst e2; obtain ⟨_, rfl⟩ := d'.ofInt
    exact iadd_int (setAttr_ o (S₂.heapEq (s' := { s₂ with toks := s₂.toks + 1 }) rfl) k1 k2 h3 h4 (.int _ _) fun s' nx' a'' S' x' => ⟨(a.trans (.toks _ _)).trans (a'.trans ((Same.toks _ _).trans a'')), m, nx', _, ε, _, S', (c.trans c').trans x', .next, q'⟩))

/-! a list's or a dict's item stored -/
theorem kiset_of {l : List Value} {k : Nat} {v : Value} (h : k < l.length) : ki_setL l k v = some (l.set k v) := by
  induction l generalizing k with
  | nil => exact absurd h (Nat.not_lt_zero _)
  | cons a r ih =>
    cases k with
    | zero => rfl
    | succ k =>
      have := ih (k := k) (Nat.lt_of_succ_lt_succ h)
      simp [ki_setL, this]
theorem VAll.set {nx : Led} {v : Value} {d : AV} (hv : VIn nx v d) : ∀ {vs : List Value} {l : List AV}, VAll nx vs l → ∀ k : Nat, VAll nx (vs.set k v) (l.set k d)
  | _, _, .nil, _ => .nil
  | _, _, .cons _ r, 0 => .cons hv r
  | _, _, .cons a r, k + 1 => .cons a (VAll.set hv r k)
theorem setItem_list (o : f.Ok w) (S : St prog w f s m nx ε H) {x : Addr} {l : List AV} {k : Nat} {t : Tok} {v : Value} {av : AV} {Q : Unit → Shared → Prop} {E : Value → Shared → Prop} (h1 : H x = some (.list l)) (hk : k < l.length) (hl : k < 1000000) (hv : VIn nx v av)
    (q : ∀ s' nx', Same s s' → St prog w f s' m nx' ε (H.put x (.list (l.set k av))) → Ext nx nx' → Q () s') : wpAny (model prog w) f.A (setItem (.ref x) (.int (k : Int) t) v) Q E s := by
  obtain ⟨ob, hm, ho⟩ := S.obj _ _ h1
  obtain ⟨vs, n, rfl, va⟩ := ho.ofList
  focus
    have e1 := va.length
    refine ki_set S.F (S.focus hm) (by omega) (by omega) (q := vs.set k v) (by simpa using kiset_of (v := v) (by omega : k < vs.length)) (Led.upd nx x _ _) fun h' F' N' => ?_
    obtain ⟨S', y⟩ := S.turnN (s' := { s with heap := h' }) h1 hm F' N' rfl fun nx' x => .list (VAll.set (hv.ext x) (va.ext x) k)
    exact q _ _ ⟨h', _, rfl⟩ S' y
inductive SetIP (ε : En) (Q : FV → En → Hp → Prop) (v u z : AV) (H : Hp) : Prop
  | intro (x : Addr) (l : List AV) (k : Nat) : u = .ref x → H x = some (.list l) → z = .int (k : Int) → k < l.length → k < 1000000 → Q .next ε (H.put x (.list (l.set k v))) → SetIP ε Q v u z H
noncomputable abbrev Two2 (prog : Program) (w : World) (f : Fm) (i : PySem.Expr) (ε : En) (R : AV → AV → AV → Hp → Prop) (v u : AV) : Hp → Prop := fun H₂ => E1 prog w f i ε H₂ (R v u)
inductive AugJP (x : Addr) (l : List AV) (k : Nat) (a : Int) (ε : En) (Q : FV → En → Hp → Prop) (v : AV) (H : Hp) : Prop
  | intro (b : Int) : v = .int b → H x = some (.list l) → Q .next ε (H.put x (.list (l.set k (.int (a + b))))) → AugJP x l k a ε Q v H
inductive AugIP (prog : Program) (w : World) (f : Fm) (e : PySem.Expr) (ε : En) (Q : FV → En → Hp → Prop) (u z : AV) (H : Hp) : Prop
  | intro (x : Addr) (l : List AV) (k : Nat) (a : Int) : u = .ref x → H x = some (.list l) → z = .int (k : Int) → k < 1000000 → l[k]? = some (.int a) → E1 prog w f e ε H (AugJP x l k a ε Q) → AugIP prog w f e ε Q u z H
theorem s_setItem {e t i : PySem.Expr} {p pos : Pos} {Q : FV → En → Hp → Prop}
    (h : E1 prog w f e ε H (Two prog w f t ε (Two2 prog w f i ε (SetIP ε Q))))
    (hs : swapsWith e (some (.Subscript t i p)) pos.line f.env = pure false := by rfl) : S1 prog w f (exec (.Assign [.Subscript t i p] e pos) f.env) ε H Q := fun o s m nx S =>
  wpAny_Assign_Subscript (h.use o S fun v s₁ nx₁ av H₁ a S₁ c d q => q.use o S₁ fun u s₂ nx₂ bv H₂ a' S₂ c' d' q' => q'.use o S₂ fun z s₃ nx₃ cv H₃ a'' S₃ c'' d'' ⟨x, l, k, e1, h1, e2, h2, h3, q''⟩ => by
    subst e1 e2; obtain rfl := d'.ofRef; obtain ⟨_, rfl⟩ := d''.ofInt
    exact setItem_list o S₃ h1 h2 h3 ((d.ext c').ext c'') fun s' nx' b S' y => ⟨((a.trans a').trans a'').trans b, m, nx', _, ε, _, S', ((c.trans c').trans c'').trans y, .next, q''⟩) hs
theorem s_augItem {e t i : PySem.Expr} {p pos : Pos} {Q : FV → En → Hp → Prop}
    (h : E1 prog w f t ε H (Two prog w f i ε (AugIP prog w f e ε Q)))
    (hs : ∀ ov iv new : Value, augStore i ov iv new = (do holding [new, ov, iv] (setItem ov iv new); release [new, ov, iv] []; pure Flow.next) := by intros; rfl) : S1 prog w f (exec (.AugAssign (.Subscript t i p) .Add e pos) f.env) ε H Q := fun o s m nx S =>
  wpAny_AugAssign_Subscript_any (h.use o S fun u s₁ nx₁ av H₁ a S₁ c d q => q.use o S₁ fun z s₂ nx₂ bv H₂ a' S₂ c' d' ⟨x, l, k, i, e1, h1, e2, h2, h3, q'⟩ => by
    subst e1 e2; obtain rfl := d.ofRef; obtain ⟨_, rfl⟩ := d'.ofInt
    obtain ⟨ob, hm, ho⟩ := S₂.obj _ _ h1
    obtain ⟨vs, n, rfl, va⟩ := ho.ofList
    focus
      obtain ⟨v', hv1, hv2⟩ := va.get h3
      obtain ⟨_, rfl⟩ := hv2.ofInt
      refine wpAny_getItem_list (items := vs.toArray) ⟨_, S₂.mem hm, rfl, _, rfl⟩ (by omega) (by omega) (by simpa using hv1) ?_
      refine q'.use o S₂ fun v s₃ nx₃ cv H₃ a'' S₃ c'' d'' ⟨b, e3, k1, q''⟩ => ?_
      subst e3; obtain ⟨_, rfl⟩ := d''.ofInt
      exact iadd_int (setItem_list o (S₃.heapEq (s' := { s₃ with toks := s₃.toks + 1 }) rfl) k1 (List.getElem?_eq_some_iff.mp h3).1 h2 (.int _ _) fun s' nx' b' S' y => ⟨((a.trans a').trans (a''.trans (.toks _ _))).trans b', m, nx', _, ε, _, S', ((c.trans c').trans c'').trans y, .next, q''⟩)) hs
end
end Mine
set_option Elab.async false
set_option linter.unusedVariables false
set_option maxRecDepth 100000
namespace Mine
open PySem PySem.W PySem.Calls PySem.Spec PyProof.Rows
section
variable {prog : Program} {w : World} {f : Fm} {ε : En} {H : Hp} {s s' : Shared} {m : Str → Option Value} {nx nx' : Led}

noncomputable abbrev LoopQ (N : En → Hp → Prop) (Q : FV → En → Hp → Prop) : FV → En → Hp → Prop := fun fv ε' H' => match fv with
  | .next | .cont => N ε' H'
  | .brk => Q .next ε' H'
  | .ret v => Q (.ret v) ε' H'
noncomputable abbrev LessI (Inv : Nat → En → Hp → Prop) (n : Nat) : En → Hp → Prop := fun ε' H' => ∃ k, k < n ∧ Inv k ε' H'
structure WhileP (prog : Program) (w : World) (f : Fm) (body : List Stmt) (Inv : Nat → En → Hp → Prop) (n : Nat) (ε : En) (Q : FV → En → Hp → Prop) (b : Bool) (H : Hp) : Prop where
  (yes : b = true → S1 prog w f (execs body f.env) ε H (LoopQ (LessI Inv n) Q)) (no : b = false → Q .next ε H)
/-- a while: at each turn the word holds, the number falls -/
theorem s_while {e : PySem.Expr} {body : List Stmt} {pos : Pos} {Q : FV → En → Hp → Prop} (Inv : Nat → En → Hp → Prop) (n : Nat) (h0 : Inv n ε H)
    (turn : ∀ n ε H, Inv n ε H → T1 prog w f e ε H (WhileP prog w f body Inv n ε Q)) : S1 prog w f (exec (.While e body [] pos) f.env) ε H Q := fun o s m nx S => by
  refine wpAny_While (codeAny_whileLoop (fun n s₁ => Same s s₁ ∧ ∃ m₁ nx₁ ε₁ H₁, St prog w f s₁ m₁ nx₁ ε₁ H₁ ∧ Ext nx nx₁ ∧ Inv n ε₁ H₁) ?_ n ⟨.refl s, m, nx, ε, H, S, .refl _, h0⟩)
  rintro n s₁ ⟨a, m₁, nx₁, ε₁, H₁, S₁, c, hi⟩
  refine (turn n ε₁ H₁ hi).use o S₁ fun b s₂ nx₂ H₂ a' S₂ c' q => ?_
  cases b with
  | true =>
    refine (q.1 rfl).use o S₂ fun fl s₃ m₃ nx₃ fv ε₃ H₃ a'' S₃ c'' d q => ?_
    cases d with
    | next => obtain ⟨k, hk, q⟩ := q; exact ⟨k, hk, (a.trans a').trans a'', m₃, nx₃, ε₃, H₃, S₃, (c.trans c').trans c'', q⟩
    | cont => obtain ⟨k, hk, q⟩ := q; exact ⟨k, hk, (a.trans a').trans a'', m₃, nx₃, ε₃, H₃, S₃, (c.trans c').trans c'', q⟩
    | brk => exact ⟨(a.trans a').trans a'', m₃, nx₃, _, ε₃, H₃, S₃, (c.trans c').trans c'', .next, q⟩
    | ret dv => exact ⟨(a.trans a').trans a'', m₃, nx₃, _, ε₃, H₃, S₃, (c.trans c').trans c'', .ret dv, q⟩
  | false => exact wpAny_execs_nil ⟨a.trans a', m₁, nx₂, _, ε₁, H₂, S₂, c.trans c', .next, q.2 rfl⟩

/-- an object is put by, untouched -/
noncomputable abbrev Fm.holds (f : Fm) (p : Addr × Obj) : Fm := { f with own := p :: f.own }
theorem Fm.Ok.holds (o : f.Ok w) (p : Addr × Obj) : (f.holds p).Ok w := ⟨o.B, o.X, o.T, o.frames, o.hh, o.kind, o.dep, o.un⟩
theorem St.hold (S : St prog w f s m nx ε H) {p : Addr × Obj} (hm : p ∈ nx) (hp : H p.1 = none) : St prog w (f.holds p) s m nx ε H :=
  ⟨S.F, S.N, S.loc, S.obj, fun q hq => by
    rcases List.mem_cons.mp hq with rfl | hq
    · exact ⟨hm, hp⟩
    · exact S.own q hq⟩
theorem St.free {p : Addr × Obj} (S : St prog w (f.holds p) s m nx ε H) : St prog w f s m nx ε H := ⟨S.F, S.N, S.loc, S.obj, fun q hq => S.own q (.tail _ hq)⟩
/-- all but one address stand -/
theorem St.but (S : St prog w f s m nx ε H) {I : Addr} {oI : Obj} (hm : (I, oI) ∈ nx) (hI : H I = none) (ht : ¬ IsT oI) (ho : ∀ p ∈ f.own, p.1 ≠ I) (hs : ∀ b ob, b ≠ I → s.heap.get? b = some ob → s'.heap.get? b = some ob) :
    ∃ nx', St prog w f s' m nx' ε H ∧ Ext nx nx' ∧ ∀ p ∈ nx, p.1 ≠ I → p ∈ nx' := by
  have hN := S.N _ hm
  have same : ∀ o₂, (I, o₂) ∈ nx → o₂ = oI := fun o₂ h => by
    have e1 := (S.N _ h).1; have e2 := hN.1
    dsimp only at e1 e2
    rw [e1] at e2; exact Option.some.inj e2
  have sub : ∀ p ∈ nx, p.1 ≠ I → p ∈ nx.filter (fun p => decide (p.1 ≠ I)) := fun p hp q => List.mem_filter.mpr ⟨hp, decide_eq_true q⟩
  have x : Ext nx (nx.filter (fun p => decide (p.1 ≠ I))) := fun a ob hm' t => by
    refine sub _ hm' fun e => ?_
    dsimp only at e
    subst e
    exact ht (same _ hm' ▸ t)
  obtain ⟨oL, es, ep, hL, r⟩ := S.F.ns
  refine ⟨nx.filter (fun p => decide (p.1 ≠ I)), ⟨⟨⟨oL, es, ep, hs _ _ (Ne.symm hN.2.1) hL, r⟩, fun b ob e => hs _ _ (fun z => by rw [z] at e; rw [hN.2.2] at e; cases e) (S.F.keep b ob e), S.F.above⟩, fun p hp => ?_, fun y av e => let ⟨v, h1, h2⟩ := S.loc y av e; ⟨v, h1, h2.ext x⟩, fun b ao e => ?_, fun q hq => ⟨sub q (S.own q hq).1 (ho q hq), (S.own q hq).2⟩⟩, x, sub⟩
  · obtain ⟨h1, h2⟩ := List.mem_filter.mp hp
    exact ⟨hs _ _ (of_decide_eq_true h2) (S.N _ h1).1, (S.N _ h1).2⟩
  · obtain ⟨ob, h1, h2⟩ := S.obj b ao e
    exact ⟨ob, sub _ h1 (fun z => by dsimp only at z; rw [z, hI] at e; cases e), h2.ext x⟩
/-- a held object turns -/
theorem St.stepHeld {I : Addr} {oI oI' : Obj} (S : St prog w (f.holds (I, oI)) s m nx ε H) (ht : ¬ IsT oI) (ho : ∀ p ∈ f.own, p.1 ≠ I) (hs : Heap.SameBut I s.heap s'.heap) (hI' : s'.heap.get? I = some oI') :
    ∃ nx', St prog w (f.holds (I, oI')) s' m nx' ε H ∧ Ext nx nx' := by
  obtain ⟨hm, hI⟩ := S.own _ (.head _)
  obtain ⟨nx', S', x, sub⟩ := S.free.but (s' := s') hm hI ht ho fun b ob hb e => (hs.2 b hb).trans e
  refine ⟨(I, oI') :: nx', ⟨S'.F, fun p hp => ?_, fun y av e => let ⟨v, h1, h2⟩ := S'.loc y av e; ⟨v, h1, h2.ext (.cons _ _)⟩, S'.obj.ext fun p hp => .tail _ hp, fun p hp => ?_⟩, x.trans (.cons _ _)⟩
  · rcases List.mem_cons.mp hp with rfl | hp
    · exact ⟨hI', (S.N _ hm).2⟩
    · exact S'.N p hp
  · rcases List.mem_cons.mp hp with rfl | hp
    · exact ⟨.head _, hI⟩
    · exact ⟨.tail _ (S'.own p hp).1, (S'.own p hp).2⟩
/-- what an iterator is to do, with n items -/
structure Iter (prog : Program) (w : World) (f : Fm) (I : Addr) (n : Nat) (item : Nat → AV) (Has : Hp → Prop) (IsIt : Nat → Obj → Prop) (nx₀ : Led) : Prop where
  notT : ∀ i o, IsIt i o → ¬ IsT o
  next : ∀ i oI s m nx ε H, f.Ok w → i < n → IsIt i oI → Has H → Ext nx₀ nx → St prog w (f.holds (I, oI)) s m nx ε H → ∀ (Q : Option Value → Shared → Prop) (E : Value → Shared → Prop),
    (∀ v s' oI', Same s s' → VIn nx v (item i) → IsIt (i + 1) oI' → Heap.SameBut I s.heap s'.heap → s'.heap.get? I = some oI' → Q (some v) s') → wpAny (model prog w) f.A (pyNext (.ref I)) Q E s
  done : ∀ oI s m nx ε H, f.Ok w → IsIt n oI → Has H → Ext nx₀ nx → St prog w (f.holds (I, oI)) s m nx ε H → ∀ (Q : Option Value → Shared → Prop) (E : Value → Shared → Prop),
    (∀ s', Same s s' → (∀ b ob, b ≠ I → s.heap.get? b = some ob → s'.heap.get? b = some ob) → Q none s') → wpAny (model prog w) f.A (pyNext (.ref I)) Q E s
theorem for_core {x : Str} {px : Pos} {body : List Stmt} {I : Addr} {n : Nat} {item : Nat → AV} {Has : Hp → Prop} {IsIt : Nat → Obj → Prop} {Q : FV → En → Hp → Prop} {oI : Obj} (T : Iter prog w f I n item Has IsIt nx) (hx : f.env.kindOf x = some .local) (o : f.Ok w)
    (ho : ∀ p ∈ f.own, p.1 ≠ I) (Inv : Nat → En → Hp → Prop) (h0 : Inv 0 ε H) (hi : IsIt 0 oI) (has : ∀ i ε H, Inv i ε H → Has H)
    (turn : ∀ i ε H oI, i < n → Inv i ε H → S1 prog w (f.holds (I, oI)) (execs body f.env) ((x, item i) :: ε) H (LoopQ (Inv (i + 1)) Q)) (fin : ∀ ε H, Inv n ε H → Q .next ε H) (S : St prog w (f.holds (I, oI)) s m nx ε H) {R : Result → Shared → Prop}
    (hR : ∀ fl s', PS prog w f s nx Q fl s' → R (.ok fl) s') : codeAny (model prog w) f.A (.forLoop (.Name x px) (.ref I) body [] f.env) R s := by
  refine codeAny_forLoop (fun k s₁ => ∃ i oI, i ≤ n ∧ k = n - i ∧ IsIt i oI ∧ Same s s₁ ∧ ∃ m₁ nx₁ ε₁ H₁, St prog w (f.holds (I, oI)) s₁ m₁ nx₁ ε₁ H₁ ∧ Ext nx nx₁ ∧ Inv i ε₁ H₁) ?_ n ⟨0, oI, Nat.zero_le _, rfl, hi, .refl s, m, nx, ε, H, S, .refl _, h0⟩
  rintro k s₁ ⟨i, oI, hin, rfl, hit, a, m₁, nx₁, ε₁, H₁, S₁, c, hinv⟩
  have ob := o.holds (I, oI)
  by_cases hlt : i < n
  · refine T.next i oI s₁ m₁ nx₁ ε₁ H₁ o hlt hit (has _ _ _ hinv) c S₁ _ _ fun v s₂ oI' a' hv hit' hs hI' => ?_
    obtain ⟨nx₂, S₂, c'⟩ := S₁.stepHeld (T.notT _ _ hit) ho hs hI'
    have st : wpAny (model prog w) f.A (assign (.Name x px) f.env v) (fun _ s₃ => ∃ m₃, Same s₂ s₃ ∧ St prog w (f.holds (I, oI')) s₃ m₃ nx₂ ((x, item i) :: ε₁) H₁) Bot s₂ :=
      wpAny_bind (wpAny_standAt (wpAny_bindName (store_ (f := f.holds (I, oI')) (o.holds _) S₂ (hv.ext c') hx fun s₃ m₃ a₃ S₃ => ⟨m₃, a₃, S₃⟩)))
    refine wpAny_mono st (fun _ s₃ ⟨m₃, a₃, S₃⟩ => ?_) fun _ _ x => x.elim
    refine (turn i ε₁ H₁ oI' hlt hinv).use (f := f.holds (I, oI')) (o.holds _) S₃ fun fl s₄ m₄ nx₄ fv ε₄ H₄ a₄ S₄ c₄ d q => ?_
    have aa := ((a.trans a').trans a₃).trans a₄
    have cc := (c.trans c').trans c₄
    cases d with
    | next => exact ⟨n - (i + 1), by omega, i + 1, oI', by omega, rfl, hit', aa, m₄, nx₄, ε₄, H₄, S₄, cc, q⟩
    | cont => exact ⟨n - (i + 1), by omega, i + 1, oI', by omega, rfl, hit', aa, m₄, nx₄, ε₄, H₄, S₄, cc, q⟩
    | brk => exact hR _ _ ⟨aa, m₄, nx₄, _, ε₄, H₄, S₄.free, cc, .next, q⟩
    | ret dv => exact hR _ _ ⟨aa, m₄, nx₄, _, ε₄, H₄, S₄.free, cc, .ret dv, q⟩
  · obtain rfl : i = n := by omega
    refine T.done oI s₁ m₁ nx₁ ε₁ H₁ o hit (has _ _ _ hinv) c S₁ _ _ fun s₂ a' hs => ?_
    obtain ⟨hm, hI⟩ := S₁.own _ (.head _)
    obtain ⟨nx₂, S₂, c', _⟩ := S₁.free.but (s' := s₂) hm hI (T.notT _ _ hit) ho hs
    exact wpAny_execs_nil (hR _ _ ⟨a.trans a', m₁, nx₂, _, ε₁, H₁, S₂, c.trans c', .next, fin _ _ hinv⟩)

theorem iter_list {l : Addr} {I : Addr} {L : List AV} {nx₀ : Led} : Iter prog w f I L.length (fun i => L.getD i .none) (fun H => H l = some (.list L)) (fun i o => o.cls = .type "list_iterator" ∧ o.data = .fields #[.ref l, .int i 0]) nx₀ where
  notT := fun i o ⟨h1, _⟩ ⟨vs, n, e⟩ => by subst e; simp at h1
  next := fun i oI s m nx ε H o hi ⟨c1, c2⟩ hh _ S Q E q => by
    obtain ⟨ob, hm, ho⟩ := S.obj _ _ hh
    obtain ⟨vs, n, rfl, va⟩ := ho.ofList
    focus
      obtain ⟨v, h1, h2⟩ := va.get (k := i) (d := L[i]) (List.getElem?_eq_getElem hi)
      have hI := (S.N _ (S.own _ (.head _)).1).1
      refine wpAny_pyNext_list_item (items := vs.toArray) ⟨oI, hI, c1, c2⟩ ⟨_, S.mem hm, rfl, _, rfl⟩ (by simpa using h1) fun h' ⟨o', k1, k2, k3⟩ hs => ?_
      refine q v { s with heap := h' } o' ⟨h', _, rfl⟩ ?_ ⟨k2, k3⟩ hs k1
      rw [List.getD_eq_getElem?_getD, List.getElem?_eq_getElem hi]; exact h2
  done := fun oI s m nx ε H o ⟨c1, c2⟩ hh _ S Q E q => by
    obtain ⟨ob, hm, ho⟩ := S.obj _ _ hh
    obtain ⟨vs, n, rfl, va⟩ := ho.ofList
    focus
      have hI := (S.N _ (S.own _ (.head _)).1).1
      refine wpAny_pyNext_list_end (items := vs.toArray) o.hh ⟨oI, hI, c1, c2⟩ ⟨_, S.mem hm, rfl, _, rfl⟩ (by have := va.length; simp [this]) fun h' hs => ?_
      exact q { s with heap := h' } ⟨h', _, rfl⟩ fun b ob hb e => hs b ob hb e
/-- the state behind a new object that is put by -/
theorem St.pushHeld (S : St prog w f s m nx ε H) (ob : Obj) (hf : ob.isFreed = false) : ∃ nx', St prog w (f.holds (s.heap.objs.size, ob)) { s with heap := s.heap.push ob } m nx' ε H ∧ Ext nx nx' ∧ ∀ p ∈ f.own, p.1 ≠ s.heap.objs.size := by
  have lt : ∀ p ∈ nx, p.1 < s.heap.objs.size := fun p hp => Heap.lt_size (S.N p hp).1
  refine ⟨(s.heap.objs.size, ob) :: nx, (S.more (s' := { s with heap := s.heap.push ob }) (S.F.push ob) (S.N.push S.F ob hf) rfl).hold (.head _) (S.fresh lt), .cons _ _, fun p hp => Nat.ne_of_lt (lt p (S.own p hp).1)⟩
inductive ForLP (prog : Program) (w : World) (f : Fm) (x : Str) (body : List Stmt) (ε : En) (Q : FV → En → Hp → Prop) (v : AV) (H : Hp) : Prop
  | intro (l : Addr) (L : List AV) : v = .ref l → H l = some (.list L) → ∀ Inv : Nat → En → Hp → Prop, Inv 0 ε H → (∀ i ε H, Inv i ε H → H l = some (.list L)) →
      (∀ i ε H p, i < L.length → Inv i ε H → S1 prog w (f.holds p) (execs body f.env) ((x, L.getD i .none) :: ε) H (LoopQ (Inv (i + 1)) Q)) → (∀ ε H, Inv L.length ε H → Q .next ε H) → ForLP prog w f x body ε Q v H
inductive ForTP (prog : Program) (w : World) (f : Fm) (x : Str) (body : List Stmt) (ε : En) (Q : FV → En → Hp → Prop) (v : AV) (H : Hp) : Prop
  | intro (L : List AV) : v = .tup L → ∀ Inv : Nat → En → Hp → Prop, Inv 0 ε H →
      (∀ i ε H p, i < L.length → Inv i ε H → S1 prog w (f.holds p) (execs body f.env) ((x, L.getD i .none) :: ε) H (LoopQ (Inv (i + 1)) Q)) → (∀ ε H, Inv L.length ε H → Q .next ε H) → ForTP prog w f x body ε Q v H
inductive ForRP (prog : Program) (w : World) (f : Fm) (x : Str) (body : List Stmt) (ε : En) (Q : FV → En → Hp → Prop) (v : AV) (H : Hp) : Prop
  | intro (r : Addr) (n : Nat) : v = .ref r → H r = some (.rng n) → n < 1000000 → ∀ Inv : Nat → En → Hp → Prop, Inv 0 ε H →
      (∀ i ε H p, i < n → Inv i ε H → S1 prog w (f.holds p) (execs body f.env) ((x, .int i) :: ε) H (LoopQ (Inv (i + 1)) Q)) → (∀ ε H, Inv n ε H → Q .next ε H) → ForRP prog w f x body ε Q v H
theorem s_forList {x : Str} {px pos : Pos} {e : PySem.Expr} {body : List Stmt} {Q : FV → En → Hp → Prop} (hx : f.env.kindOf x = some .local)
    (h : E1 prog w f e ε H (ForLP prog w f x body ε Q))
    (hs : ∀ x, foldedSetIterable e f.env x = pure x := by intro _; rfl) : S1 prog w f (exec (.For (.Name x px) e body [] pos) f.env) ε H Q := fun o s m nx S =>
  wpAny_For (h.use o S fun v s₁ nx₁ av H₁ a S₁ c d ⟨l, L, e1, h1, Inv, i0, i1, i2, i3⟩ => by
    subst e1; obtain rfl := d.ofRef
    obtain ⟨ob, hm, ho⟩ := S₁.obj _ _ h1
    obtain ⟨vs, n, rfl, va⟩ := ho.ofList
    focus
      refine wpAny_pyIter_list (items := vs.toArray) ⟨_, S₁.mem hm, rfl, _, rfl⟩ ?_
      obtain ⟨nx₂, S₂, c₂, own₂⟩ := S₁.pushHeld { cls := .type "list_iterator", data := .fields #[.ref l, .int 0 0] } rfl
      refine for_core iter_list hx o own₂ Inv i0 ⟨rfl, rfl⟩ i1 (fun i ε H oI => i2 i ε H _) i3 S₂ fun fl s' y => ?_
      exact y.pre (a.trans ⟨_, _, rfl⟩) (c.trans c₂)) hs

theorem iter_tup {t : Addr} {I : Addr} {L : List AV} {vs : List Value} {n : Nat} {nx₀ : Led} (hm : (t, tupOf vs n) ∈ nx₀) (va : VAll nx₀ vs L) :
    Iter prog w f I L.length (fun i => L.getD i .none) (fun _ => True) (fun i o => o.cls = .type "tuple_iterator" ∧ o.data = .fields #[.ref t, .int i 0]) nx₀ where
  notT := fun i o ⟨h1, _⟩ ⟨vs, n, e⟩ => by subst e; simp at h1
  next := fun i oI s m nx ε H o hi ⟨c1, c2⟩ hh x S Q E q => by
    obtain ⟨v, h1, h2⟩ := (va.ext x).get (k := i) (d := L[i]) (List.getElem?_eq_getElem hi)
    have hI := (S.N _ (S.own _ (.head _)).1).1
    refine wpAny_pyNext_tuple_item (items := vs.toArray) ⟨oI, hI, c1, c2⟩ ⟨_, S.mem (x _ _ hm ⟨_, _, rfl⟩), rfl, _, rfl⟩ (by simpa using h1) fun h' ⟨o', k1, k2, k3⟩ hs => ?_
    refine q v { s with heap := h' } o' ⟨h', _, rfl⟩ ?_ ⟨k2, k3⟩ hs k1
    rw [List.getD_eq_getElem?_getD, List.getElem?_eq_getElem hi]; exact h2
  done := fun oI s m nx ε H o ⟨c1, c2⟩ hh x S Q E q => by
    have hI := (S.N _ (S.own _ (.head _)).1).1
    refine wpAny_pyNext_tuple_end (items := vs.toArray) o.hh ⟨oI, hI, c1, c2⟩ ⟨_, S.mem (x _ _ hm ⟨_, _, rfl⟩), rfl, _, rfl⟩ (by have := va.length; simp [this]) fun h' hs => ?_
    exact q { s with heap := h' } ⟨h', _, rfl⟩ fun b ob hb e => hs b ob hb e
theorem s_forTup {x : Str} {px pos : Pos} {e : PySem.Expr} {body : List Stmt} {Q : FV → En → Hp → Prop} (hx : f.env.kindOf x = some .local)
    (h : E1 prog w f e ε H (ForTP prog w f x body ε Q))
    (hs : ∀ x, foldedSetIterable e f.env x = pure x := by intro _; rfl) : S1 prog w f (exec (.For (.Name x px) e body [] pos) f.env) ε H Q := fun o s m nx S =>
  wpAny_For (h.use o S fun v s₁ nx₁ av H₁ a S₁ c d ⟨L, e1, Inv, i0, i2, i3⟩ => by
    subst e1
    obtain ⟨t, vs, n, rfl, hm, va⟩ := d.ofTup
    focus
      refine wpAny_pyIter_tuple (items := vs.toArray) ⟨_, S₁.mem hm, rfl, _, rfl⟩ ?_
      obtain ⟨nx₂, S₂, c₂, own₂⟩ := S₁.pushHeld { cls := .type "tuple_iterator", data := .fields #[.ref t, .int 0 0] } rfl
      refine for_core (iter_tup (c₂ _ _ hm ⟨_, _, rfl⟩) (va.ext c₂)) hx o own₂ Inv i0 ⟨rfl, rfl⟩ (fun _ _ _ _ => trivial) (fun i ε H oI => i2 i ε H _) i3 S₂ fun fl s' y => ?_
      exact y.pre (a.trans ⟨_, _, rfl⟩) (c.trans c₂)) hs

theorem iter_range {I : Addr} {n : Nat} {nx₀ : Led} : Iter prog w f I n (fun i => .int i) (fun _ => True) (fun i o => o = { cls := .type "range_iterator", data := .fields #[rawInt (i : Nat), rawInt ((n : Int) - (i : Nat)), rawInt 1] }) nx₀ where
  notT := fun i o h1 ⟨vs, n, e⟩ => by subst h1; simp at e
  next := fun i oI s m nx ε H o hi c1 hh x S Q E q => by
    have hI := (S.N _ (S.own _ (.head _)).1).1
    subst c1
    refine wpAny_pyNext_range_item (x := (i : Nat)) (left := (n : Int) - (i : Nat)) (step := 1) hI (by omega) fun h' k1 hs => ?_
    have e1 : ((i : Nat) : Int) + 1 = ((i + 1 : Nat) : Int) := by omega
    have e2 : (n : Int) - (i : Nat) - 1 = (n : Int) - ((i + 1 : Nat) : Int) := by omega
    rw [e1, e2] at k1
    exact q _ { s with heap := h', toks := s.toks + 1 } _ ⟨h', _, rfl⟩ (.int _ _) rfl hs k1
  done := fun oI s m nx ε H o c1 hh x S Q E q => by
    have hI := (S.N _ (S.own _ (.head _)).1).1
    subst c1
    exact wpAny_pyNext_range_end (x := (n : Nat)) (left := (n : Int) - (n : Nat)) (step := 1) o.hh hI (by omega) fun h' hs => q { s with heap := h' } ⟨h', _, rfl⟩ fun b ob hb e => hs b ob hb e
theorem s_forRange {x : Str} {px pos : Pos} {e : PySem.Expr} {body : List Stmt} {Q : FV → En → Hp → Prop} (hx : f.env.kindOf x = some .local)
    (h : E1 prog w f e ε H (ForRP prog w f x body ε Q))
    (hs : ∀ x, foldedSetIterable e f.env x = pure x := by intro _; rfl) : S1 prog w f (exec (.For (.Name x px) e body [] pos) f.env) ε H Q := fun o s m nx S =>
  wpAny_For (h.use o S fun v s₁ nx₁ av H₁ a S₁ c d ⟨r, n, e1, h1, hn, Inv, i0, i2, i3⟩ => by
    subst e1; obtain rfl := d.ofRef
    obtain ⟨ob, hm, ho⟩ := S₁.obj _ _ h1
    obtain ⟨t, u, v, rfl⟩ := ho.ofRng
    focus
      have sz : Builtin.Range.rangeSize 0 (n : Int) 1 = (n : Int) := by
        unfold Builtin.Range.rangeSize
        rw [if_pos (by decide : (1 : Int) > 0)]
        split <;> omega
      refine wpAny_pyIter_range (a := 0) (b := (n : Int)) (c := 1) (t := t) (u := u) (v := v) (S₁.mem hm) (small_one (by omega) (by omega) (by omega) (by omega)) ?_
      rw [sz]
      obtain ⟨nx₂, S₂, c₂, own₂⟩ := S₁.pushHeld { cls := .type "range_iterator", data := .fields #[rawInt 0, rawInt n, rawInt 1] } rfl
      refine for_core (iter_range (n := n)) hx o own₂ Inv i0 (by simp) (fun _ _ _ _ => trivial) (fun i ε H oI => i2 i ε H _) i3 S₂ fun fl s' y => ?_
      exact y.pre (a.trans ⟨_, _, rfl⟩) (c.trans c₂)) hs
end
end Mine
set_option Elab.async false
set_option linter.unusedVariables false
set_option maxRecDepth 100000
namespace Mine
open PySem PySem.W PySem.Calls PySem.Spec PyProof.Rows
section
variable {prog : Program} {w : World} {f : Fm} {ε : En} {H : Hp} {s s' : Shared} {m : Str → Option Value} {nx nx' : Led}

/-! lists -/
theorem mb_list {x : Addr} {l : List AV} {name : Str} {id : String} (h1 : H x = some (.list l)) (slot : Slot "list" name id) (hty : typeOf (.builtin id) = pure (.type "method_descriptor")) : MB prog w H x name id := fun f s m nx ε pl Q E S q => by
  obtain ⟨ob, hm, ho⟩ := S.obj _ _ h1
  obtain ⟨_, _, rfl, va⟩ := ho.ofList
  exact kl_method S.N hm slot hty q
theorem mb_append {x : Addr} {l : List AV} (h1 : H x = some (.list l)) : MB prog w H x "append" "list.append" := mb_list h1 PySem.F.slot_list_append PySem.F.type_list_append
theorem mb_pop {x : Addr} {l : List AV} (h1 : H x = some (.list l)) : MB prog w H x "pop" "list.pop" := mb_list h1 PySem.F.slot_list_pop PySem.F.type_list_pop
theorem mb_insert {x : Addr} {l : List AV} (h1 : H x = some (.list l)) : MB prog w H x "insert" "list.insert" := mb_list h1 PySem.F.slot_list_insert PySem.F.type_list_insert
theorem mb_extend {x : Addr} {l : List AV} (h1 : H x = some (.list l)) : MB prog w H x "extend" "list.extend" := mb_list h1 PySem.F.slot_list_extend PySem.F.type_list_extend
theorem VAll.one {v : Value} {d : AV} (h : VIn nx v d) : VAll nx [v] [d] := .cons h .nil
theorem cv_append {x : Addr} {l : List AV} {d : AV} {Q : AV → Hp → Prop} (h1 : H x = some (.list l)) (hl : l.length < 1000000) (q : Q .none (H.put x (.list (l ++ [d])))) : CV prog w f (.builtin "list.append") [.ref x, d] ε H Q := fun o s m nx vs S hv => by
  obtain ⟨_, _, rfl, hx, hd⟩ := hv.is2
  focus
      obtain rfl := hx.ofRef
      rename_i v
      obtain ⟨ob, hm, ho⟩ := S.obj _ _ h1
      obtain ⟨ws, n, rfl, va⟩ := ho.ofList
      focus
        have e := va.length
        refine append_K S.F (S.focus hm) (Led.upd nx x _ _) (fun h' F' N' => ?_) (by rw [sizeLine_eq, List.size_toArray]; omega)
        have e2 : (ws.toArray.push v) = (ws ++ [v]).toArray := by simp
        rw [e2] at N'
        obtain ⟨S', y⟩ := S.turnN (s' := { s with heap := h' }) h1 hm F' N' rfl fun nx' z => .list ((va.ext z).append (.one (hd.ext z)))
        exact ⟨⟨h', _, rfl⟩, _, .none, _, S', y, .none, q⟩
theorem cv_pop {x : Addr} {l : List AV} {d : AV} {Q : AV → Hp → Prop} (h1 : H x = some (.list (l ++ [d]))) (hl : l.length < 1000000) (q : Q d (H.put x (.list l))) : CV prog w f (.builtin "list.pop") [.ref x] ε H Q := fun o s m nx vs S hv => by
  obtain ⟨_, rfl, hx⟩ := hv.is1
  focus
    obtain rfl := hx.ofRef
    obtain ⟨ob, hm, ho⟩ := S.obj _ _ h1
    obtain ⟨ws, n, rfl, va⟩ := ho.ofList
    focus
      have e := va.length
      obtain ⟨us, ys, rfl, h2, h3⟩ := va.split
      obtain ⟨v, rfl, hd⟩ := h3.is1
      focus
        refine kl_pop S.F (S.focus hm) (p := us) (y := v) (by simpa using kpa_last v us) (Led.upd nx x _ _) (by rw [sizeLine_eq]; simp at e ⊢; omega) fun h' F' N' => ?_
        obtain ⟨S', y⟩ := S.turnN (s' := { s with heap := h' }) h1 hm F' N' rfl fun nx' z => .list (h2.ext z)
        exact ⟨⟨h', _, rfl⟩, _, d, _, S', y, hd.ext y, q⟩
theorem VAll.take {vs : List Value} {l : List AV} (h : VAll nx vs l) (k : Nat) : VAll nx (vs.take k) (l.take k) := by
  induction k generalizing vs l with
  | zero => simp; exact .nil
  | succ k ih => cases h with
    | nil => simp; exact .nil
    | cons a r => exact .cons a (ih r)
theorem VAll.drop {vs : List Value} {l : List AV} (h : VAll nx vs l) (k : Nat) : VAll nx (vs.drop k) (l.drop k) := by
  induction k generalizing vs l with
  | zero => exact h
  | succ k ih => cases h with
    | nil => exact .nil
    | cons a r => exact ih r
theorem cv_insert {x : Addr} {l : List AV} {k : Nat} {d : AV} {Q : AV → Hp → Prop} (h1 : H x = some (.list l)) (hk : k ≤ l.length) (hl : l.length < 1000000) (q : Q .none (H.put x (.list (l.take k ++ d :: l.drop k)))) : CV prog w f (.builtin "list.insert") [.ref x, .int k, d] ε H Q := fun o s m nx vs S hv => by
  obtain ⟨_, _, _, rfl, hx, hi, hd⟩ := hv.is3
  focus
        obtain rfl := hx.ofRef; obtain ⟨_, rfl⟩ := hi.ofInt
        rename_i v t
        obtain ⟨ob, hm, ho⟩ := S.obj _ _ h1
        obtain ⟨ws, n, rfl, va⟩ := ho.ofList
        focus
          have e := va.length
          have ek : kl_ins ws (k : Int) v = ws.take k ++ v :: ws.drop k := by
            unfold kl_ins
            have h0 : ¬ ((k : Int) < 0) := by omega
            have h2 : min (k : Int).toNat ws.length = k := by omega
            simp only [h0, if_false, h2]
          have fit : Builtin.List.listFitsIndex (k : Int) = true := by unfold Builtin.List.listFitsIndex; simp; try omega
          refine kl_insert S.F (S.focus hm) fit (by simpa using ek) (Led.upd nx x _ _) (by rw [sizeLine_eq]; simp; omega) fun h' F' N' => ?_
          obtain ⟨S', y⟩ := S.turnN (s' := { s with heap := h' }) h1 hm F' N' rfl fun nx' z => .list (((va.ext z).take k).append (.cons (hd.ext z) ((va.ext z).drop k)))
          exact ⟨⟨h', _, rfl⟩, _, .none, _, S', y, .none, q⟩
theorem cv_extend {x y : Addr} {l k : List AV} {Q : AV → Hp → Prop} (h1 : H x = some (.list l)) (h2 : H y = some (.list k)) (hne : x ≠ y) (hl : l.length < 1000000) (hk : k.length < 1000000) (q : Q .none (H.put x (.list (l ++ k)))) : CV prog w f (.builtin "list.extend") [.ref x, .ref y] ε H Q := fun o s m nx vs S hv => by
  obtain ⟨_, _, rfl, hx, hy⟩ := hv.is2
  focus
      obtain rfl := hx.ofRef; obtain rfl := hy.ofRef
      obtain ⟨ob, hm, ho⟩ := S.obj _ _ h1
      obtain ⟨ob2, hm2, ho2⟩ := S.obj _ _ h2
      obtain ⟨ws, n, rfl, va⟩ := ho.ofList
      obtain ⟨us, n2, rfl, vb⟩ := ho2.ofList
      focus
          have e := va.length; have e2 := vb.length
          have hb : (y, listOf us.toArray n2) ∈ nx.turn x (listOf ws.toArray n) := .tail _ (List.mem_filter.mpr ⟨hm2, decide_eq_true (Ne.symm hne)⟩)
          by_cases h0 : us.length = 0
          · have eu : us = [] := List.eq_nil_of_length_eq_zero h0
            subst eu
            obtain rfl : k = [] := List.eq_nil_of_length_eq_zero (by simpa using e2.symm)
            rw [List.append_nil] at q
            refine kxn_extend S.F (S.focus hm) hb rfl (Led.upd nx x _ _) (by simp [Builtin.List.listTooLong]; intro _; rw [sizeLine_eq]; omega) (by rw [sizeLine_eq]; simp; omega) (by rw [sizeLine_eq]; simp; omega) fun h' F' N' => ?_
            obtain ⟨S', y⟩ := S.turnN (s' := { s with heap := h' }) h1 hm F' N' rfl fun nx' z => .list (va.ext z)
            exact ⟨⟨h', _, rfl⟩, _, .none, _, S', y, .none, q⟩
          · refine kl_extend S.F (S.focus hm) hb rfl (by simpa using h0) (Led.upd nx x _ _) (by simp [Builtin.List.listTooLong]; intro _; rw [sizeLine_eq]; omega) (by rw [sizeLine_eq]; simp; omega) (by rw [sizeLine_eq]; simp; omega) fun h' F' N' => ?_
            have e3 : ws.toArray.toList ++ us.toArray.toList = ws ++ us := by simp
            rw [e3] at N'
            obtain ⟨S', y⟩ := S.turnN (s' := { s with heap := h' }) h1 hm F' N' rfl fun nx' z => .list ((va.ext z).append (vb.ext z))
            exact ⟨⟨h', _, rfl⟩, _, .none, _, S', y, .none, q⟩
/-- list(x): a copy -/
theorem cv_list {x : Addr} {l : List AV} {Q : AV → Hp → Prop} (h1 : H x = some (.list l)) (hl : l.length < 1000000) (q : ∀ y, H y = none → Q (.ref y) (H.put y (.list l))) : CV prog w f (.type "list") [.ref x] ε H Q := fun o s m nx vs S hv => by
  obtain ⟨_, rfl, hx⟩ := hv.is1
  focus
    obtain rfl := hx.ofRef
    obtain ⟨ob, hm, ho⟩ := S.obj _ _ h1
    obtain ⟨ws, n, rfl, va⟩ := ho.ofList
    focus
      have e := va.length
      refine kup_listOf S.F S.N hm (zs := ws) (by simp) (fun D c h' F' N' l1 => ?_) (by rw [sizeLine_eq]; simp; omega)
      exact ⟨⟨h', _, rfl⟩, _, .ref D, _, S.new (s' := { s with heap := h' }) F' N' rfl l1 (.list (va.ext (.cons _ _))), .cons _ _, .ref D, q D (S.fresh l1)⟩
theorem cv_listT {l : List AV} {Q : AV → Hp → Prop} (hl : l.length < 1000000) (q : ∀ y, H y = none → Q (.ref y) (H.put y (.list l))) : CV prog w f (.type "list") [.tup l] ε H Q := fun o s m nx vs S hv => by
  obtain ⟨_, rfl, hx⟩ := hv.is1
  focus
    obtain ⟨a, ws, n, rfl, hm, va⟩ := hx.ofTup
    focus
      have e := va.length
      refine kup_listOfT S.F S.N hm (zs := ws) (by simp) (fun D c h' F' N' l1 => ?_) (by rw [sizeLine_eq]; simp; omega)
      exact ⟨⟨h', _, rfl⟩, _, .ref D, _, S.new (s' := { s with heap := h' }) F' N' rfl l1 (.list (va.ext (.cons _ _))), .cons _ _, .ref D, q D (S.fresh l1)⟩
theorem cv_tuple {x : Addr} {l : List AV} {Q : AV → Hp → Prop} (h1 : H x = some (.list l)) (hl : l.length < 10000) (q : Q (.tup l) H) : CV prog w f (.type "tuple") [.ref x] ε H Q := fun o s m nx vs S hv => by
  obtain ⟨_, rfl, hx⟩ := hv.is1
  focus
    obtain rfl := hx.ofRef
    obtain ⟨ob, hm, ho⟩ := S.obj _ _ h1
    obtain ⟨ws, n, rfl, va⟩ := ho.ofList
    focus
      have e := va.length
      refine kde_tupleOf S.F S.N ⟨_, S.mem hm, rfl, _, rfl⟩ (zs := ws) (by simp; omega) (by simp) fun D h' F' N' l1 => ?_
      exact ⟨⟨h', _, rfl⟩, _, .tup l, H, S.more (s' := { s with heap := h' }) F' N' rfl, .cons _ _, .tup (n := 0) (.head _) (va.ext (.cons _ _)), q⟩
theorem cv_len {x : Addr} {l : List AV} {Q : AV → Hp → Prop} (h1 : H x = some (.list l)) (hl : l.length < 1000000) (q : Q (.int l.length) H) : CV prog w f (.builtin "len") [.ref x] ε H Q := fun o s m nx vs S hv => by
  obtain ⟨_, rfl, hx⟩ := hv.is1
  focus
    obtain rfl := hx.ofRef
    obtain ⟨ob, hm, ho⟩ := S.obj _ _ h1
    obtain ⟨ws, n, rfl, va⟩ := ho.ofList
    focus
      have e := va.length
      refine call_len_list (items := ws.toArray) ⟨_, S.mem hm, rfl, _, rfl⟩ (by simp; omega) ?_
      have e2 : ((ws.toArray.size : Nat) : Int) = (l.length : Int) := by simp [e]
      rw [e2]
      exact ⟨.toks s _, nx, _, H, S.heapEq rfl, .refl _, .int _ _, q⟩
theorem cv_lenT {l : List AV} {Q : AV → Hp → Prop} (hl : l.length < 1000000) (q : Q (.int l.length) H) : CV prog w f (.builtin "len") [.tup l] ε H Q := fun o s m nx vs S hv => by
  obtain ⟨_, rfl, hx⟩ := hv.is1
  focus
    obtain ⟨a, ws, n, rfl, hm, va⟩ := hx.ofTup
    focus
      have e := va.length
      refine len_tuple (items := ws.toArray) ⟨_, S.mem hm, rfl, _, rfl⟩ (by simp; omega) ?_
      have e2 : ((ws.toArray.size : Nat) : Int) = (l.length : Int) := by simp [e]
      rw [e2]
      exact ⟨.toks s _, nx, _, H, S.heapEq rfl, .refl _, .int _ _, q⟩
theorem cv_range {n : Int} {Q : AV → Hp → Prop} (q : ∀ y, H y = none → Q (.ref y) (H.put y (.rng n))) : CV prog w f (.type "range") [.int n] ε H Q := fun o s m nx vs S hv => by
  obtain ⟨_, rfl, hx⟩ := hv.is1
  focus
    obtain ⟨_, rfl⟩ := hx.ofInt
    have lt : ∀ p ∈ nx, p.1 < s.heap.objs.size := fun p hp => Heap.lt_size (S.N p hp).1
    refine range1_rows S.F S.N fun h' tk t₁ u₁ v₁ hr F' N' hk => ?_
    have N2 : News f.h₀ f.L h' ((s.heap.objs.size, { cls := .type "range", data := .fields #[.int 0 t₁, .int n u₁, .int 1 v₁] }) :: nx) := fun p hp => by
      rcases List.mem_cons.mp hp with rfl | hp
      · refine ⟨hr, Nat.ne_of_gt S.F.ns.lt, ?_⟩
        cases q : f.h₀.get? s.heap.objs.size with
        | none => rfl
        | some ob => exact absurd (Heap.lt_size (S.F.keep _ _ q)) (Nat.lt_irrefl _)
      · exact N' p hp
    exact ⟨⟨h', _, rfl⟩, _, .ref _, _, S.new (s' := { s with heap := h', toks := tk }) F' N2 rfl lt .rng, .cons _ _, .ref _, q _ (S.fresh lt)⟩
end
end Mine
set_option Elab.async false
set_option linter.unusedVariables false
set_option maxRecDepth 100000
namespace Mine
open PySem PySem.W PySem.Calls PySem.Spec PyProof.Rows
section
variable {prog : Program} {w : World} {f : Fm} {ε : En} {H : Hp} {s s' : Shared} {m : Str → Option Value} {nx nx' : Led}

noncomputable def kvGet (k : Int) : List (Int × AV) → Option AV
  | [] => none
  | p :: r => if p.1 = k then some p.2 else kvGet k r
noncomputable def kvPut (k : Int) (v : AV) : List (Int × AV) → List (Int × AV)
  | [] => [(k, v)]
  | p :: r => if p.1 = k then (p.1, v) :: r else p :: kvPut k v r
theorem valueAt_cons (p : Int × Value) (r : List (Int × Value)) (k : Int) : valueAt (p :: r) k = if p.1 = k then some p.2 else valueAt r k := by
  unfold valueAt
  rw [List.find?_cons]
  by_cases h : p.1 = k
  · simp [h]
  · simp [h]
theorem KvIn.get : ∀ {kvs : List (Int × Value)} {l : List (Int × AV)}, KvIn nx kvs l → ∀ k : Int, match kvGet k l with
    | some d => ∃ v, valueAt kvs k = some v ∧ VIn nx v d
    | none => valueAt kvs k = none
  | _, _, .nil, k => rfl
  | _, _, .cons (k := j) (v := v) (d := d) (es := es) (fs := fs) a r, k => by
    have ih := r.get k
    rw [valueAt_cons]
    unfold kvGet
    dsimp only
    by_cases h : j = k
    · simp only [h, if_true]; exact ⟨v, rfl, a⟩
    · simp only [h, if_false]; exact ih
theorem KvIn.keys : ∀ {kvs : List (Int × Value)} {l : List (Int × AV)}, KvIn nx kvs l → kvs.map (·.1) = l.map (·.1)
  | _, _, .nil => rfl
  | _, _, .cons _ r => by rw [List.map_cons, List.map_cons, r.keys]
theorem stored_cons (p : Int × Value) (r : List (Int × Value)) (k : Int) (v : Value) (hn : ((p :: r).map (·.1)).Nodup) : stored (p :: r) k v = if p.1 = k then (p.1, v) :: r else p :: stored r k v := by
  unfold stored
  rw [List.map_cons, List.nodup_cons] at hn
  by_cases h : p.1 = k
  · simp only [List.any_cons, h, decide_true, Bool.true_or, if_true, List.map_cons]
    rw [map_store_of_not_mem r k v (by rw [← h]; exact hn.1)]
  · simp only [List.any_cons, h, decide_false, Bool.false_or, if_false, List.map_cons, List.cons_append]
    split <;> rfl
theorem KvIn.put {v : Value} {d : AV} (hv : VIn nx v d) (k : Int) : ∀ {kvs : List (Int × Value)} {l : List (Int × AV)}, KvIn nx kvs l → (kvs.map (·.1)).Nodup → KvIn nx (stored kvs k v) (kvPut k d l)
  | _, _, .nil, _ => .cons hv .nil
  | _, _, .cons (k := j) a r, hn => by
    rw [stored_cons _ _ _ _ hn]
    unfold kvPut
    dsimp only
    rw [List.map_cons, List.nodup_cons] at hn
    by_cases h : j = k
    · simp only [h, if_true]; exact .cons hv r
    · simp only [h, if_false]; exact .cons a (KvIn.put hv k r hn.2)
theorem nodup_of_dictOf {d : Addr} {kvs : List (Int × Value)} {h : Heap} (x : h.DictOf (intKind prog w) d kvs) : (kvs.map (·.1)).Nodup := by obtain ⟨_, _, _, _, _, _, _, _, hn⟩ := x; exact hn

theorem e_dict0 {pos : Pos} {Q : AV → Hp → Prop} (q : ∀ d, H d = none → d ≠ sysModules → Q (.ref d) (H.put d (.dict []))) : E1 prog w f (.Dict [] [] pos) ε H Q := fun o s m nx S =>
  newDict_K S.F S.N o.T.nolimit fun d h' ob F' N' l1 lo _ _ hd _ =>
    ⟨⟨h', _, rfl⟩, _, .ref d, _, S.new (s' := { s with heap := h' }) F' N' rfl l1 (.dict hd .nil), .cons _ _, .ref d, q d (S.fresh l1) (by simpa using lo)⟩
theorem St.dict (S : St prog w f s m nx ε H) {d : Addr} {l : List (Int × AV)} (h : H d = some (.dict l)) : ∃ o kvs, (d, o) ∈ nx ∧ o.IsDictOf (intKind prog w) kvs ∧ KvIn nx kvs l ∧ s.heap.DictOf (intKind prog w) d kvs := by
  obtain ⟨ob, hm, ho⟩ := S.obj _ _ h
  obtain ⟨_, a, b⟩ := ho.ofDict
  exact ⟨_, _, hm, a, b, kda_dict S.N hm a⟩
theorem c_notInD {d : Addr} {l : List (Int × AV)} (k : Int) (h : H d = some (.dict l)) (hd : d ≠ sysModules) : Cmp prog w .NotIn (.int k) (.ref d) H (!(kvGet k l).isSome) := fun f s m nx ε v u Q E o hr S hv hu q => by
  obtain ⟨_, rfl⟩ := hv.ofInt; obtain rfl := hu.ofRef
  obtain ⟨ob, kvs, hm, hk, kv, hD⟩ := S.dict h
  refine wpAny_notIn_of (knd := intKind prog w) (intKind_is _ _ _ _) (by simpa using hd) hD.mapOf ?_
  have g := kv.get k
  have e : (valueAt kvs k).isSome = (kvGet k l).isSome := by
    split at g
    · rename_i e; obtain ⟨v, g, _⟩ := g; rw [g, e]; rfl
    · rename_i e; rw [g, e]; rfl
  rw [e]; exact q _
inductive ItemDP (Q : AV → Hp → Prop) (v u : AV) (H : Hp) : Prop
  | intro (a : Addr) (k : Int) (l : List (Int × AV)) (d : AV) : v = .ref a → u = .int k → H a = some (.dict l) → kvGet k l = some d → Q d H → ItemDP Q v u H
inductive SetDP (ε : En) (Q : FV → En → Hp → Prop) (v u z : AV) (H : Hp) : Prop
  | intro (x : Addr) (l : List (Int × AV)) (k : Int) : u = .ref x → H x = some (.dict l) → z = .int k → l.length < 1000000 → Q .next ε (H.put x (.dict (kvPut k v l))) → SetDP ε Q v u z H
/-- d[k] -/
theorem e_itemD {e i : PySem.Expr} {pos : Pos} {Q : AV → Hp → Prop} (h : E1 prog w f e ε H (Two prog w f i ε (ItemDP Q)))
    (hs : ∀ a k t, subscripted i false (.ref a) (.int k t) = operate [.ref a, .int k t] (getItem (.ref a) (.int k t)) := by intros; rfl) : E1 prog w f (.Subscript e i pos) ε H Q := fun o s m nx S =>
  Subscript_ (h.use o S fun v s₁ nx₁ av H₁ a S₁ c d q => q.use o S₁ fun u s₂ nx₂ bv H₂ a' S₂ c' d' ⟨x, k, l, dd, e1, e2, hx, hk, hq⟩ => by
    subst e1 e2; obtain ⟨_, rfl⟩ := d'.ofInt; obtain rfl := d.ofRef
    obtain ⟨ob, kvs, hm, hk', kv, hD⟩ := S₂.dict hx
    have g := kv.get k
    rw [hk] at g
    obtain ⟨v', g1, g2⟩ := g
    refine tail_any hD.typeIs slot_dict_getitem.lookup (wpAny_getItem_of (knd := intKind prog w) (intKind_is _ _ _ _) hD.mapOf g1 ?_) (hs _ _ _)
    exact ⟨(a.trans a').trans (.toks _ _), nx₂, dd, H₂, S₂.heapEq rfl, c.trans c', g2, hq⟩)
/-- d[k] = v -/
theorem s_setItemD {e t i : PySem.Expr} {p pos : Pos} {Q : FV → En → Hp → Prop}
    (h : E1 prog w f e ε H (Two prog w f t ε (Two2 prog w f i ε (SetDP ε Q))))
    (hs : swapsWith e (some (.Subscript t i p)) pos.line f.env = pure false := by rfl) : S1 prog w f (exec (.Assign [.Subscript t i p] e pos) f.env) ε H Q := fun o s m nx S =>
  wpAny_Assign_Subscript (h.use o S fun v s₁ nx₁ av H₁ a S₁ c d q => q.use o S₁ fun u s₂ nx₂ bv H₂ a' S₂ c' d' q' => q'.use o S₂ fun z s₃ nx₃ cv H₃ a'' S₃ c'' d'' ⟨x, l, k, e1, h1, e2, h2, q''⟩ => by
    subst e1 e2; obtain rfl := d'.ofRef; obtain ⟨_, rfl⟩ := d''.ofInt
    obtain ⟨ob, kvs, hm, hk', kv, hD⟩ := S₃.dict h1
    have hn := nodup_of_dictOf hD
    have el : kvs.length = l.length := by have := congrArg List.length kv.keys; simpa using this
    refine wpAny_setItem_pairs (knd := intKind prog w) (intKind_is _ _ _ _) hD (fun h' hD' hs' => ?_) (by rw [sizeLine_eq]; omega)
    obtain ⟨ob', ho', hi'⟩ := Heap.dictOf_iff.mp hD'
    obtain ⟨S', y⟩ := S₃.turn (s' := { s₃ with heap := h', toks := s₃.toks + 1 }) h1 hm hs' ho' fun nx' z => .dict hi' (KvIn.put (((d.ext c').ext c'').ext z) k (kv.ext z) hn)
    exact ⟨((a.trans a').trans a'').trans ⟨h', _, rfl⟩, m, _, _, ε, _, S', ((c.trans c').trans c'').trans y, .next, q''⟩) hs
theorem mb_get {x : Addr} {l : List (Int × AV)} (h1 : H x = some (.dict l)) : MB prog w H x "get" "dict.get" := fun f s m nx ε pl Q E S q => by
  obtain ⟨ob, kvs, hm, hk', kv, hD⟩ := S.dict h1
  exact kdg_method S.N hm hk' q
theorem cv_get {x : Addr} {l : List (Int × AV)} {k : Int} {d : AV} {Q : AV → Hp → Prop} (h1 : H x = some (.dict l)) (hx : x ≠ sysModules) (q : Q ((kvGet k l).getD d) H) : CV prog w f (.builtin "dict.get") [.ref x, .int k, d] ε H Q := fun o s m nx vs S hv => by
  obtain ⟨_, _, _, rfl, ha, hk, hd⟩ := hv.is3
  focus
        obtain rfl := ha.ofRef; obtain ⟨_, rfl⟩ := hk.ofInt
        obtain ⟨ob, kvs, hm, hk', kv, hD⟩ := S.dict h1
        refine kdg_get2 (knd := intKind prog w) S.N hm hk' (by simpa using hx) (intKind_is _ _ _ _) _ rfl ?_
        have g := kv.get k
        refine ⟨.toks s _, nx, _, H, S.heapEq rfl, .refl _, ?_, q⟩
        split at g
        · rename_i e; obtain ⟨v, g, hv⟩ := g; rw [g, e]; exact hv
        · rename_i e; rw [g, e]; exact hd
/-- a for over a dict's keys: the dict is held for its while -/
theorem iter_keys {d : Addr} {I : Addr} {ob : Obj} {kvs : List (Int × Value)} {ep : Nat} {l : List (Int × AV)} {nx₀ : Led} (hk : kvs.map (·.1) = l.map (·.1)) (hat : ∀ h : Heap, h.get? d = some ob → h.DictAt (intKind prog w) d kvs ep) :
    Iter prog w f I l.length (fun i => .int ((l.map (·.1)).getD i 0)) (fun H => H d = some (.opq ob)) (fun i o => o.cls = .type "dict_keyiterator" ∧ o.data = .fields #[.ref d, .int i 0, .int kvs.length 0, .int ep 0]) nx₀ where
  notT := fun i o ⟨h1, _⟩ ⟨vs, n, e⟩ => by subst e; simp at h1
  next := fun i oI s m nx ε H o hi ⟨c1, c2⟩ hh x S Q E q => by
    obtain ⟨ob', hm, ho⟩ := S.obj _ _ hh
    obtain ⟨rfl, _, _⟩ := ho.ofOpq
    have hI := (S.N _ (S.own _ (.head _)).1).1
    have el : kvs.length = l.length := by have := congrArg List.length hk; simpa using this
    have hx : kvs[i]? = some (kvs[i]'(by omega)) := List.getElem?_eq_getElem (by omega)
    refine wpAny_pyNext_dict_item (knd := intKind prog w) (k := (kvs[i]'(by omega)).1) (v := (kvs[i]'(by omega)).2) ⟨oI, hI, c1, c2⟩ (hat _ (S.mem hm)) hx fun key h' hkey ⟨o', k1, k2, k3⟩ hs => ?_
    obtain ⟨t, rfl⟩ := Value.isInt_shape hkey
    refine q _ { s with heap := h' } o' ⟨h', _, rfl⟩ ?_ ⟨k2, k3⟩ hs k1
    have e2 : (l.map (·.1)).getD i 0 = (kvs[i]'(by omega)).1 := by
      rw [← hk, List.getD_eq_getElem?_getD, List.getElem?_map, hx]; rfl
    rw [e2]; exact .int _ _
  done := fun oI s m nx ε H o ⟨c1, c2⟩ hh x S Q E q => by
    obtain ⟨ob', hm, ho⟩ := S.obj _ _ hh
    obtain ⟨rfl, _, _⟩ := ho.ofOpq
    have hI := (S.N _ (S.own _ (.head _)).1).1
    have el : kvs.length = l.length := by have := congrArg List.length hk; simpa using this
    have c2' : oI.data = .fields #[.ref d, .int (l.length : Nat) 0, .int kvs.length 0, .int ep 0] := c2
    exact wpAny_pyNext_dict_end (knd := intKind prog w) (i := l.length) o.hh ⟨oI, hI, c1, c2'⟩ (hat _ (S.mem hm)) (by simp [el]) fun h' hs => q { s with heap := h' } ⟨h', _, rfl⟩ fun b ob hb e => hs b ob hb e
/-- a dict of references, as it lies -/
noncomputable def DObj (prog : Program) (w : World) (ob : Obj) (l : List (Int × AV)) : Prop := ∃ kvs, ob.IsDictOf (intKind prog w) kvs ∧ KvIn [] kvs l
theorem KvIn.bare : ∀ {kvs : List (Int × Value)} {l : List (Int × AV)}, KvIn nx kvs l → (∀ p ∈ l, ∃ a, p.2 = .ref a) → KvIn [] kvs l
  | _, _, .nil, _ => .nil
  | _, _, .cons (k := k) a r, h => by
    obtain ⟨x, e⟩ := h _ (.head _)
    dsimp only at e
    subst e
    obtain rfl := a.ofRef
    exact .cons (.ref x) (KvIn.bare r fun p hp => h p (.tail _ hp))
theorem St.dobj (S : St prog w f s m nx ε H) {d : Addr} {ob : Obj} {l : List (Int × AV)} (h : H d = some (.opq ob)) (hd : DObj prog w ob l) : ∃ kvs, KvIn [] kvs l ∧ s.heap.DictOf (intKind prog w) d kvs := by
  obtain ⟨ob', hm, ho⟩ := S.obj _ _ h
  obtain ⟨rfl, _, _⟩ := ho.ofOpq
  obtain ⟨kvs, h1, h2⟩ := hd
  exact ⟨kvs, h2, kda_dict S.N hm h1⟩
inductive ItemOP (prog : Program) (w : World) (Q : AV → Hp → Prop) (v u : AV) (H : Hp) : Prop
  | intro (a : Addr) (k : Int) (l : List (Int × AV)) (d : AV) (ob : Obj) : v = .ref a → u = .int k → H a = some (.opq ob) → DObj prog w ob l → kvGet k l = some d → Q d H → ItemOP prog w Q v u H
inductive KeysI (prog : Program) (w : World) (f : Fm) (x : Str) (body : List Stmt) (ε : En) (Q : FV → En → Hp → Prop) (d : Addr) (l : List (Int × AV)) (H : Hp) (ob : Obj) : Prop
  | intro (Inv : Nat → En → Hp → Prop) : Inv 0 ε (H.put d (.opq ob)) → (∀ i ε H, Inv i ε H → H d = some (.opq ob)) →
      (∀ i ε H p, i < l.length → Inv i ε H → S1 prog w (f.holds p) (execs body f.env) ((x, .int ((l.map (·.1)).getD i 0)) :: ε) H (LoopQ (Inv (i + 1)) Q)) → (∀ ε H, Inv l.length ε H → Q .next ε (H.put d (.dict l))) → KeysI prog w f x body ε Q d l H ob
inductive ForKP (prog : Program) (w : World) (f : Fm) (x : Str) (body : List Stmt) (ε : En) (Q : FV → En → Hp → Prop) (v : AV) (H : Hp) : Prop
  | intro (d : Addr) (l : List (Int × AV)) : v = .ref d → H d = some (.dict l) → d ≠ sysModules → (∀ p ∈ l, ∃ a, p.2 = .ref a) → (∀ ob, DObj prog w ob l → KeysI prog w f x body ε Q d l H ob) → ForKP prog w f x body ε Q v H
theorem e_itemO {e i : PySem.Expr} {pos : Pos} {Q : AV → Hp → Prop} (h : E1 prog w f e ε H (Two prog w f i ε (ItemOP prog w Q)))
    (hs : ∀ a k t, subscripted i false (.ref a) (.int k t) = operate [.ref a, .int k t] (getItem (.ref a) (.int k t)) := by intros; rfl) : E1 prog w f (.Subscript e i pos) ε H Q := fun o s m nx S =>
  Subscript_ (h.use o S fun v s₁ nx₁ av H₁ a S₁ c d q => q.use o S₁ fun u s₂ nx₂ bv H₂ a' S₂ c' d' ⟨x, k, l, dd, ob, e1, e2, hx, hb, hk, hq⟩ => by
    subst e1 e2; obtain ⟨_, rfl⟩ := d'.ofInt; obtain rfl := d.ofRef
    obtain ⟨kvs, kv, hD⟩ := S₂.dobj hx hb
    have g := kv.get k
    rw [hk] at g
    obtain ⟨v', g1, g2⟩ := g
    refine tail_any hD.typeIs slot_dict_getitem.lookup (wpAny_getItem_of (knd := intKind prog w) (intKind_is _ _ _ _) hD.mapOf g1 ?_) (hs _ _ _)
    exact ⟨(a.trans a').trans (.toks _ _), nx₂, dd, H₂, S₂.heapEq rfl, c.trans c', g2.ext (by intro _ _ h; cases h), hq⟩)
theorem s_forKeys {x : Str} {px pos : Pos} {e : PySem.Expr} {body : List Stmt} {Q : FV → En → Hp → Prop} (hx : f.env.kindOf x = some .local)
    (h : E1 prog w f e ε H (ForKP prog w f x body ε Q))
    (hs : ∀ x, foldedSetIterable e f.env x = pure x := by intro _; rfl) : S1 prog w f (exec (.For (.Name x px) e body [] pos) f.env) ε H Q := fun o s m nx S =>
  wpAny_For (h.use o S fun v s₁ nx₁ av H₁ a S₁ c d ⟨d', l, e1, h1, hd, hr, k⟩ => by
    subst e1; obtain rfl := d.ofRef
    obtain ⟨ob, kvs, hm, hk', kv, hD⟩ := S₁.dict h1
    obtain ⟨ep, hat⟩ := hD.dictAt
    refine wpAny_pyIter_dict (knd := intKind prog w) (by simpa using hd) hat ?_
    have el : kvs.length = l.length := by have := congrArg List.length kv.keys; simpa using this
    obtain ⟨Inv, i0, i1, i2, i3⟩ := k ob ⟨kvs, hk', kv.bare hr⟩
    have nT : ¬ IsT ob := (OIn.dict (prog := prog) (w := w) hk' kv).notT
    have nF : ob.isFreed = false := (OIn.dict (prog := prog) (w := w) hk' kv).notFreed
    have S₁' : St prog w f s₁ m nx₁ ε (H₁.put d' (.opq ob)) := ⟨S₁.F, S₁.N, S₁.loc, S₁.obj.put hm (.opq nT nF), fun q hq => ⟨(S₁.own q hq).1, by
      have e := (S₁.own q hq).2
      have ne : q.1 ≠ d' := fun z => by rw [z, h1] at e; cases e
      unfold Hp.put; rw [if_neg ne]; exact e⟩⟩
    obtain ⟨nx₂, S₂, c₂, own₂⟩ := S₁'.pushHeld { cls := .type "dict_keyiterator", data := .fields #[.ref d', .int 0 0, .int (kvs.length) 0, .int ep 0] } rfl
    have hob : ∀ h : Heap, h.get? d' = some ob → h.DictAt (intKind prog w) d' kvs ep := fun h e => by
      obtain ⟨o', es', ho', r⟩ := hat
      rw [S₁.mem hm] at ho'; cases ho'
      exact ⟨ob, es', e, r⟩
    refine for_core (Q := fun fv ε' H' => match fv with
        | .next => (H' d' = some (.opq ob) ∧ Q .next ε' (H'.put d' (.dict l))) ∨ Q .next ε' H'
        | fv => Q fv ε' H') (iter_keys (l := l) kv.keys hob) hx o own₂ Inv i0 ⟨rfl, rfl⟩ i1 (fun i ε H oI hi hv => (i2 i ε H _ hi hv).mono fun fv ε' H' q => ?_) (fun ε H hv => .inl ⟨i1 _ _ _ hv, i3 _ _ hv⟩) S₂ fun fl s' y => ?_
    · cases fv with
      | next => exact q
      | cont => exact q
      | brk => exact .inr q
      | ret v => exact q
    · obtain ⟨b, m', nx', fv, ε', H', S', c', d, q⟩ := y
      have bb := a.trans (Same.trans ⟨_, _, rfl⟩ b)
      have cc := (c.trans c₂).trans c'
      cases d with
      | next =>
        rcases q with ⟨hq, q⟩ | q
        · obtain ⟨ob', hm', ho'⟩ := S'.obj _ _ hq
          obtain ⟨rfl, _, _⟩ := ho'.ofOpq
          have S'' : St prog w f s' m' nx' ε' (H'.put d' (.dict l)) := ⟨S'.F, S'.N, S'.loc, S'.obj.put hm' (.dict hk' (kv.ext (c₂.trans c'))), fun q hq' => ⟨(S'.own q hq').1, by
            have e := (S'.own q hq').2
            have ne : q.1 ≠ d' := fun z => by rw [z, hq] at e; cases e
            unfold Hp.put; rw [if_neg ne]; exact e⟩⟩
          exact ⟨bb, m', nx', _, ε', _, S'', cc, .next, q⟩
        · exact ⟨bb, m', nx', _, ε', H', S', cc, .next, q⟩
      | cont => exact ⟨bb, m', nx', _, ε', H', S', cc, .cont, q⟩
      | brk => exact ⟨bb, m', nx', _, ε', H', S', cc, .brk, q⟩
      | ret dv => exact ⟨bb, m', nx', _, ε', H', S', cc, .ret dv, q⟩) hs
end
end Mine
set_option Elab.async false
set_option linter.unusedVariables false
set_option maxRecDepth 100000
namespace Mine
open PySem PySem.W PySem.Calls PySem.Spec PyProof.Rows
noncomputable def addK (k : Nat) (b0 b1 b2 b3 b4 : Bool) : List Nat := kb (b0 || k == 0) (b1 || k == 1) (b2 || k == 2) (b3 || k == 3) (b4 || k == 4)
noncomputable def bit (k : Nat) (b0 b1 b2 b3 b4 : Bool) : Bool := match k with | 0 => b0 | 1 => b1 | 2 => b2 | 3 => b3 | _ => b4
noncomputable def rawTab (led : Bool) (ks : List Nat) : SetTable := { mask := 7, place := ks.toArray, dummies := #[], finger := 0, led := led, moves := 0, plain := true }
set_option maxHeartbeats 4000000
noncomputable def layL (k : Nat) (b0 b1 b2 b3 b4 led : Bool) (ts : Nat → Tok) (t : Tok) := layNew (seenTab led (kb b0 b1 b2 b3 b4)) (ents (kb b0 b1 b2 b3 b4) ts) (hashInt (k : Int)) (.int (k : Int) t)
noncomputable def layR (k : Nat) (b0 b1 b2 b3 b4 led : Bool) (ts : Nat → Tok) (t : Tok) : Array (Int × Value) × SetTable × Bool × Bool := (ents (addK k b0 b1 b2 b3 b4) (fun j => if j = k then t else ts j), rawTab led (addK k b0 b1 b2 b3 b4), false, false)
noncomputable def all5 : List (Bool × Bool × Bool × Bool × Bool) := [false, true].flatMap fun a => [false, true].flatMap fun b => [false, true].flatMap fun c => [false, true].flatMap fun d => [false, true].map fun e => (a, b, c, d, e)
noncomputable def free5 (k : Nat) : List (Bool × Bool × Bool × Bool × Bool) := all5.filter fun b => !bit k b.1 b.2.1 b.2.2.1 b.2.2.2.1 b.2.2.2.2
theorem any5 : ∀ b0 b1 b2 b3 b4 : Bool, (all5.any fun b => b.1 == b0 && b.2.1 == b1 && b.2.2.1 == b2 && b.2.2.2.1 == b3 && b.2.2.2.2 == b4) = true := by decide +kernel
theorem mem_free (k : Nat) (b0 b1 b2 b3 b4 : Bool) (h : bit k b0 b1 b2 b3 b4 = false) : (b0, b1, b2, b3, b4) ∈ free5 k := by
  obtain ⟨⟨a0, a1, a2, a3, a4⟩, hb, e⟩ := List.any_eq_true.mp (any5 b0 b1 b2 b3 b4)
  simp only [Bool.and_eq_true, beq_iff_eq] at e
  obtain ⟨⟨⟨⟨e0, e1⟩, e2⟩, e3⟩, e4⟩ := e
  subst e0 e1 e2 e3 e4
  exact List.mem_filter.mpr ⟨hb, by dsimp only; rw [h]; rfl⟩
theorem lay_all (led : Bool) (ts : Nat → Tok) (t : Tok) (k : Nat) (hk : k < 5) : (free5 k).map (fun b => layL k b.1 b.2.1 b.2.2.1 b.2.2.2.1 b.2.2.2.2 led ts t) = (free5 k).map (fun b => layR k b.1 b.2.1 b.2.2.1 b.2.2.2.1 b.2.2.2.2 led ts t) := by
  rcases k with _ | _ | _ | _ | _ | k
  · kernel_rfl
  · kernel_rfl
  · kernel_rfl
  · kernel_rfl
  · kernel_rfl
  · omega
theorem lay_LR (led : Bool) (ts : Nat → Tok) (t : Tok) (k : Nat) (hk : k < 5) (b0 b1 b2 b3 b4 : Bool) (h : bit k b0 b1 b2 b3 b4 = false) : layL k b0 b1 b2 b3 b4 led ts t = layR k b0 b1 b2 b3 b4 led ts t :=
  by
  have := List.map_inj_left.mp (lay_all led ts t k hk) (b0, b1, b2, b3, b4) (mem_free k b0 b1 b2 b3 b4 h)
  dsimp only at this
  exact this
theorem lay_seen (b0 b1 b2 b3 b4 led : Bool) (ts : Nat → Tok) (t : Tok) (k : Nat) (hk : k < 5) (hb : bit k b0 b1 b2 b3 b4 = false) :
    layNew (seenTab led (kb b0 b1 b2 b3 b4)) (ents (kb b0 b1 b2 b3 b4) ts) (hashInt (k : Int)) (.int (k : Int) t) = (ents (addK k b0 b1 b2 b3 b4) (fun j => if j = k then t else ts j), rawTab led (addK k b0 b1 b2 b3 b4), false, false) :=
  lay_LR led ts t k hk b0 b1 b2 b3 b4 hb
theorem lay_full (led : Bool) (ts : Nat → Tok) : (rawTab led [0, 1, 2, 3, 4]).tooFull = true ∧ relayAll (rawTab led [0, 1, 2, 3, 4]) (ents [0, 1, 2, 3, 4] ts) (SetTable.grown 5) = (ents [0, 1, 2, 3, 4] ts, seenTab led [0, 1, 2, 3, 4], false) := by
  exact ⟨by kernel_rfl, by kernel_rfl⟩

noncomputable def Sadd (S : Int → Bool) (k : Int) : Int → Bool := fun j => S j || decide (j = k)
noncomputable def Sdel (S : Int → Bool) (k : Int) : Int → Bool := fun j => S j && decide (j ≠ k)
theorem kbS_add (S : Int → Bool) (k : Nat) (hk : k < 5) : kbS (Sadd S k) = addK k (S 0) (S 1) (S 2) (S 3) (S 4) := by
  unfold kbS Sadd addK
  have : k = 0 ∨ k = 1 ∨ k = 2 ∨ k = 3 ∨ k = 4 := by omega
  rcases this with rfl | rfl | rfl | rfl | rfl <;> simp
theorem bit_S (S : Int → Bool) (k : Nat) (hk : k < 5) : bit k (S 0) (S 1) (S 2) (S 3) (S 4) = S k := by
  have : k = 0 ∨ k = 1 ∨ k = 2 ∨ k = 3 ∨ k = 4 := by omega
  rcases this with rfl | rfl | rfl | rfl | rfl <;> rfl
theorem kb_add : ∀ k, k < 5 → ∀ b0 b1 b2 b3 b4, (addK k b0 b1 b2 b3 b4).length = if bit k b0 b1 b2 b3 b4 then (kb b0 b1 b2 b3 b4).length else (kb b0 b1 b2 b3 b4).length + 1 := by decide +kernel
theorem kb_le : ∀ b0 b1 b2 b3 b4, (kb b0 b1 b2 b3 b4).length ≤ 5 := by decide +kernel
theorem kb_bit : ∀ k, k < 5 → ∀ b0 b1 b2 b3 b4, bit k b0 b1 b2 b3 b4 = true → k ∈ kb b0 b1 b2 b3 b4 := by decide +kernel
theorem kb_mem : ∀ b0 b1 b2 b3 b4, ∀ k ∈ kb b0 b1 b2 b3 b4, k < 5 ∧ bit k b0 b1 b2 b3 b4 = true := by decide +kernel
theorem kb_five : ∀ b0 b1 b2 b3 b4, (kb b0 b1 b2 b3 b4).length = 5 → kb b0 b1 b2 b3 b4 = [0, 1, 2, 3, 4] := by decide +kernel
theorem card_add (S : Int → Bool) (k : Nat) (hk : k < 5) : card5 (Sadd S k) = if S k then card5 S else card5 S + 1 := by
  unfold card5
  rw [kbS_add S k hk, kb_add k hk, bit_S S k hk]; rfl
theorem card_le (S : Int → Bool) : card5 S ≤ 5 := kb_le _ _ _ _ _
theorem mem_kbS {T : Int → Bool} {k : Nat} (h : k ∈ kbS T) : T k = true ∧ k < 5 := by
  obtain ⟨h1, h2⟩ := kb_mem _ _ _ _ _ k h
  exact ⟨bit_S T k h1 ▸ h2, h1⟩
theorem kbS_mem {T : Int → Bool} {k : Nat} (hk : k < 5) (h : T k = true) : k ∈ kbS T := kb_bit k hk _ _ _ _ _ ((bit_S T k hk).trans h)
theorem seen_fits : ∀ b0 b1 b2 b3 b4 led, (seenTab led (kb b0 b1 b2 b3 b4)).fits (kb b0 b1 b2 b3 b4).length = true := by decide +kernel
theorem Sadd_of (S : Int → Bool) (k : Int) (h : S k = true) : Sadd S k = S := by
  funext j
  unfold Sadd
  by_cases e : j = k
  · subst e; simp [h]
  · simp [e]
section
variable {prog : Program} {w : World} {f : Fm} {ε : En} {H : Hp} {s s' : Shared} {m : Str → Option Value} {nx nx' : Led} {A : Around}
theorem Canon.elems {o : Obj} {S : Int → Bool} (h : Canon w o S) (hlow : ∀ k, S k = true → 0 ≤ k ∧ k < 5) : o.SetObjOf (intKind prog w) S (card5 S) := by
  obtain ⟨ts, ep, rfl⟩ := h
  refine ⟨⟨rfl, rfl, rfl⟩, _, ep, _, rfl, fun e he => ?_, fun k => ?_, ?_, ?_⟩
  · unfold ents at he
    simp only [List.mem_map] at he
    obtain ⟨k, _, rfl⟩ := he
    exact ⟨⟨k, intKind_is _ _ _ _, rfl⟩, rfl⟩
  · unfold ents
    simp only [List.mem_map]
    constructor
    · intro hk
      obtain ⟨h0, h5⟩ := hlow k hk
      obtain ⟨j, rfl⟩ := Int.eq_ofNat_of_zero_le h0
      exact ⟨_, ⟨j, kbS_mem (by omega) hk, rfl⟩, intKind_is _ _ _ _⟩
    · rintro ⟨e, ⟨j, hj, rfl⟩, hk⟩
      have e1 : (j : Int) = k := by simpa [intKind, Value.isInt] using hk
      subst e1
      exact (mem_kbS hj).1
  · unfold ents card5; simp
  · have : (ents (kbS S) ts).size = (kbS S).length := by unfold ents; simp
    rw [this]; exact seen_fits _ _ _ _ _ _
end
end Mine
set_option Elab.async false
set_option linter.unusedVariables false
set_option linter.unusedSimpArgs false
set_option maxRecDepth 100000
namespace Mine
open PySem PySem.W PySem.Calls PySem.Spec PyProof.Rows
section
variable {prog : Program} {w : World} {f : Fm} {ε : En} {H : Hp} {s s' : Shared} {m : Str → Option Value} {nx nx' : Led} {A : Around} {E : Value → Shared → Prop}
theorem St.set (S : St prog w f s m nx ε H) {x : Addr} {c : Bool} {T : Int → Bool} (h : H x = some (.set c T)) : ∃ o, (x, o) ∈ nx ∧ SetOk prog w o c T ∧ s.heap.SetOf (intKind prog w) x T (card5 T) := by
  obtain ⟨ob, hm, ho⟩ := S.obj _ _ h
  have a := ho.ofSet
  exact ⟨ob, hm, a, a.so.setOf (S.mem hm) (by have := card_le T; unfold scanBound; omega)⟩
theorem c_inS {x : Addr} {c : Bool} {T : Int → Bool} (k : Int) (h : H x = some (.set c T)) : Cmp prog w .In (.int k) (.ref x) H (T k) := fun f s m nx ε v u Q E o hr S hv hu q => by
  obtain ⟨_, rfl⟩ := hv.ofInt; obtain rfl := hu.ofRef
  obtain ⟨ob, hm, hs, hS⟩ := S.set h
  exact wpAny_inSet_of (intKind_is _ _ _ _) rfl hS (q _)
theorem c_notInS {x : Addr} {c : Bool} {T : Int → Bool} (k : Int) (h : H x = some (.set c T)) : Cmp prog w .NotIn (.int k) (.ref x) H (!T k) := fun f s m nx ε v u Q E o hr S hv hu q => by
  obtain ⟨_, rfl⟩ := hv.ofInt; obtain rfl := hu.ofRef
  obtain ⟨ob, hm, hs, hS⟩ := S.set h
  exact wpAny_notInSet_of (intKind_is _ _ _ _) rfl hS (q _)
theorem mb_set {x : Addr} {c : Bool} {T : Int → Bool} {name : Str} {id : String} (h1 : H x = some (.set c T)) (slot : Slot "set" name id) (hty : typeOf (.builtin id) = pure (.type "method_descriptor")) : MB prog w H x name id := fun f s m nx ε pl Q E S q => by
  obtain ⟨ob, hm, hs, hS⟩ := S.set h1
  exact getMethod_builtin hS.typeIs PySem.F.plainAttrs_set slot hty hS.noDict q
theorem mb_add {x : Addr} {c : Bool} {T : Int → Bool} (h1 : H x = some (.set c T)) : MB prog w H x "add" "set.add" := mb_set h1 PySem.F.slot_set_add PySem.F.type_set_add
theorem mb_discard {x : Addr} {c : Bool} {T : Int → Bool} (h1 : H x = some (.set c T)) : MB prog w H x "discard" "set.discard" := mb_set h1 PySem.F.slot_set_discard PySem.F.type_set_discard

theorem addHashed_canon {a : Addr} {o : Obj} {T : Int → Bool} {k : Nat} {t : Tok} {Q : Bool → Shared → Prop} (ho : s.heap.get? a = some o) (hc : Canon w o T) (hlow : ∀ k, T k = true → 0 ≤ k ∧ k < 5) (hk : k < 5)
    (h : ∀ h' b, Heap.SameBut a s.heap h' → (∃ o', h'.get? a = some o' ∧ Canon w o' (Sadd T k)) → Q b { s with heap := h' }) : wpAny (model prog w) A (setAddHashed a (.int (k : Int) t) (hashInt (k : Int))) Q E s := by
  have hso := hc.elems (prog := prog) hlow
  obtain ⟨ts, ep, rfl⟩ := hc
  obtain ⟨hex, es, ep', tt, hd, hel, hmem, hn, hf⟩ := hso
  cases hd
  have hb : (ents (kbS T) ts).size < scanBound := by rw [hn]; have := card_le T; unfold scanBound; omega
  unfold setAddHashed setAddHashedIn
  refine wpAny_holding (wpAny_bind (wpAny_setState_of ho rfl hf ?_))
  dsimp only
  rw [byScan_of (x := .int (k : Int) t) rfl hb hel]
  simp only [↓reduceIte]
  unfold setAddByScan
  refine wpAny_bind ?_
  refine wpAny_bind (wpAny_rule ?_)
  refine wpAny_bind (wpAny_setScan_of (knd := intKind prog w) (k := (k : Int)) (intKind_is _ _ _ _) ho rfl hf hel ?_)
  cases hr : List.findIdx? (fun e => (intKind prog w).is (k : Int) e.2) (ents (kbS T) ts).toList with
  | some j =>
    dsimp only
    obtain ⟨hj, hpj, _⟩ := List.findIdx?_eq_some_iff_getElem.mp hr
    have hSk : T k = true := (hmem k).mpr ⟨_, List.getElem_mem hj, hpj⟩
    refine wpAny_pure (wpAny_pure ?_)
    have e : s = { s with heap := s.heap } := by cases s; rfl
    have := h s.heap false (Heap.SameBut.refl a s.heap) ⟨_, ho, by rw [Sadd_of T k hSk]; exact ⟨ts, ep, rfl⟩⟩
    rw [e]; exact this
  | none =>
    dsimp only
    have hSk : T k = false := by
      cases q : T k with
      | false => rfl
      | true => obtain ⟨e, he, hp⟩ := (hmem k).mp q; have := List.findIdx?_eq_none_iff.mp hr e he; rw [hp] at this; exact Bool.noConfusion this
    have hL := lay_seen (T 0) (T 1) (T 2) (T 3) (T 4) (!w.params.followText "set-order") ts t k hk (by rw [bit_S T k hk]; exact hSk)
    have hL' : layNew (seenTab (!w.params.followText "set-order") (kbS T)) (ents (kbS T) ts) (hashInt (k : Int)) (.int (k : Int) t) = (ents (kbS (Sadd T k)) (fun j => if j = k then t else ts j), rawTab (!w.params.followText "set-order") (kbS (Sadd T k)), false, false) := by
      rw [kbS_add T k hk]; exact hL
    rw [hL']
    dsimp only
    refine wpAny_bind (wpAny_pure ?_)
    have pl : (rawTab (!w.params.followText "set-order") (kbS (Sadd T k))).plain = true := rfl
    have plS : (seenTab (!w.params.followText "set-order") (kbS T)).plain = true := by unfold seenTab; split <;> rfl
    simp only [pl, plS, if_true]
    refine wpAny_bind ?_
    rw [hashByValue_scannable 8 (x := .int (k : Int) t) rfl]
    refine wpAny_pure ?_
    simp only [plainKind, if_true]
    have hz : (ents (kbS (Sadd T k)) fun j => if j = k then t else ts j).size ≤ 5 := by have := card_le (Sadd T k); unfold ents; simpa [card5] using this
    refine wpAny_bind (wpAny_storeSet_of ho rfl ?_ (by rw [sizeLine_eq]; omega))
    have g1 : (s.heap.update a (Obj.putSet (ents (kbS (Sadd T k)) fun j => if j = k then t else ts j) (rawTab (!w.params.followText "set-order") (kbS (Sadd T k))))).get? a = some { cls := .type "set", dict := none, data := .set (ents (kbS (Sadd T k)) fun j => if j = k then t else ts j) (ep + 1) (rawTab (!w.params.followText "set-order") (kbS (Sadd T k))) } :=
      Heap.get?_update_self _ ho rfl
    have sb1 := Heap.SameBut.update s.heap a (Obj.putSet (ents (kbS (Sadd T k)) fun j => if j = k then t else ts j) (rawTab (!w.params.followText "set-order") (kbS (Sadd T k))))
    by_cases h5 : (kbS (Sadd T k)).length = 5
    · have e5 : kbS (Sadd T k) = [0, 1, 2, 3, 4] := by
        exact kb_five _ _ _ _ _ h5
      obtain ⟨f1, f2⟩ := lay_full (!w.params.followText "set-order") fun j => if j = k then t else ts j
      have f2' : relayAll (rawTab (!w.params.followText "set-order") (kbS (Sadd T k))) (ents (kbS (Sadd T k)) fun j => if j = k then t else ts j) (SetTable.grown (ents (kbS (Sadd T k)) fun j => if j = k then t else ts j).size) = (ents (kbS (Sadd T k)) fun j => if j = k then t else ts j, seenTab (!w.params.followText "set-order") (kbS (Sadd T k)), false) := by rw [e5]; exact f2
      have f1' : (rawTab (!w.params.followText "set-order") (kbS (Sadd T k))).tooFull = true := by rw [e5]; exact f1
      simp only [f1', Bool.not_false, Bool.and_self, if_true, f2']
      refine wpAny_bind (wpAny_pure ?_)
      refine wpAny_bind (wpAny_storeSet_of g1 rfl ?_ (by rw [sizeLine_eq]; omega))
      refine wpAny_pure (wpAny_pure (h _ true (sb1.trans (Heap.SameBut.update _ a _)) ⟨_, Heap.get?_update_self _ g1 rfl, ?_⟩))
      exact ⟨_, ep + 1 + 1, rfl⟩
    · have lt : (kbS (Sadd T k)).length < 5 := by have := card_le (Sadd T k); unfold card5 at this; omega
      have f1 : (rawTab (!w.params.followText "set-order") (kbS (Sadd T k))).tooFull = false := by
        unfold rawTab SetTable.tooFull SetTable.fill
        simp
        omega
      simp only [f1, Bool.and_false, Bool.false_eq_true, if_false]
      refine wpAny_pure (wpAny_pure (h _ true sb1 ⟨_, g1, ?_⟩))
      refine ⟨fun j => if j = k then t else ts j, ep + 1, ?_⟩
      unfold seenTab rawTab
      rw [if_pos lt]
/-- a set's add -/
theorem cv_add {x : Addr} {c : Bool} {T : Int → Bool} {k : Nat} {Q : AV → Hp → Prop} (h1 : H x = some (.set c T)) (hk : k < 5) (q : Q .none (H.put x (.set c (Sadd T k)))) : CV prog w f (.builtin "set.add") [.ref x, .int k] ε H Q := fun o s m nx vs S hv => by
  obtain ⟨_, _, rfl, hx, hi⟩ := hv.is2
  focus
      obtain rfl := hx.ofRef; obtain ⟨_, rfl⟩ := hi.ofInt
      rename_i t
      obtain ⟨ob, hm, hs, hS⟩ := S.set h1
      have low' : ∀ j, Sadd T k j = true → 0 ≤ j ∧ j < 5 := fun j hj => by
        unfold Sadd at hj
        rcases Bool.or_eq_true_iff.mp hj with h | h
        · exact hs.low j h
        · have := of_decide_eq_true h; omega
      cases c with
      | false =>
        refine call_set_add (intKind_is _ _ _ _) rfl hS (by have := card_le T; unfold scanBound; omega) fun h' hsb hS' => ?_
        obtain ⟨ob', ho', hso'⟩ := hS'.objOf
        have e : (fun k' => T k' || decide (k' = (k : Int))) = Sadd T k := rfl
        rw [e, ← card_add T k hk] at hso'
        obtain ⟨S', y⟩ := S.turn (s' := { s with heap := h', toks := s.toks + 1 }) h1 hm hsb ho' fun nx' z => .set (c := false) ⟨hso', low', fun h => by cases h⟩
        exact ⟨⟨h', _, rfl⟩, _, .none, _, S', y, .none, q⟩
      | true =>
        refine wpAny_call_entry PySem.F.slot_set_add hS.typeIs PySem.F.entry_set_add ?_ (PySem.F.args_set_add_2 _ _)
        unfold Builtin.«set.add» Builtin.Frozenset.oneOther
        simp only [List.isEmpty_nil, bind_assoc]
        unfold Builtin.Frozenset.addrOf setAdd
        refine wpAny_bind (wpAny_pure ?_)
        try dsimp only
        refine wpAny_bind (wpAny_pure ?_)
        try dsimp only
        refine wpAny_bind ?_
        refine wpAny_holding ?_
        refine wpAny_bind ((intKind prog w).pyHash (intKind_is _ _ _ _) ?_)
        refine addHashed_canon (s := { s with toks := s.toks + 1 }) (S.mem hm) (hs.canon rfl) hs.low hk fun h' b hsb ⟨ob', ho', hc'⟩ => ?_
        obtain ⟨S', y⟩ := S.turn (s' := { s with heap := h', toks := s.toks + 1 }) h1 hm hsb ho' fun nx' z => .set (c := true) ⟨hc'.elems low', low', fun _ => hc'⟩
        show wpAny _ _ (ret Value.none) _ _ _
        exact wpAny_pure ⟨_, rfl, ⟨h', _, rfl⟩, _, .none, _, S', y, .none, q⟩

theorem nodup_le {α : Type} [DecidableEq α] : ∀ {l r : List α}, l.Nodup → (∀ x ∈ l, x ∈ r) → l.length ≤ r.length
  | [], _, _, _ => Nat.zero_le _
  | a :: l, r, hn, h => by
    rw [List.nodup_cons] at hn
    have ih := nodup_le (l := l) (r := r.erase a) hn.2 fun x hx => (List.mem_erase_of_ne (fun e => hn.1 (by rw [← e]; exact hx))).mpr (h x (.tail _ hx))
    rw [List.length_erase_of_mem (h a (.head _))] at ih
    have : 0 < r.length := List.length_pos_of_mem (h a (.head _))
    simp only [List.length_cons]
    omega
theorem kb_nodup : ∀ (b0 b1 b2 b3 b4 : Bool), (kb b0 b1 b2 b3 b4).Nodup := by decide +kernel
noncomputable def keyOf (e : Int × Value) : Nat := match e.2 with | .int k _ => k.toNat | _ => 0
/-- no key stands twice: the size tells -/
theorem card_erase {T : Int → Bool} {es : List (Int × Value)} (hmem : ∀ k, T k = true ↔ ∃ e ∈ es, (intKind prog w).is k e.2 = true) (hn : es.length = card5 T) {i : Nat} (hi : i < es.length) {k : Int} (hk : (intKind prog w).is k (es[i]).2 = true)
    {e : Int × Value} (he : e ∈ es.eraseIdx i) : (intKind prog w).is k e.2 = false := by
  cases q : (intKind prog w).is k e.2 with
  | false => rfl
  | true =>
    exfalso
    have hle : (kbS T).length ≤ ((es.eraseIdx i).map keyOf).length := by
      refine nodup_le (kb_nodup _ _ _ _ _) fun j hj => ?_
      obtain ⟨h1, h2⟩ := mem_kbS hj
      obtain ⟨e', he', hk'⟩ := (hmem j).mp h1
      obtain ⟨t', et'⟩ := Value.isInt_shape hk'
      by_cases hjk : (j : Int) = k
      · refine List.mem_map.mpr ⟨e, he, ?_⟩
        obtain ⟨t, et⟩ := Value.isInt_shape q
        unfold keyOf; rw [et]; dsimp only; rw [← hjk]; rfl
      · refine List.mem_map.mpr ⟨e', ?_, by unfold keyOf; rw [et']; rfl⟩
        obtain ⟨n, hn', e1⟩ := List.mem_iff_getElem.mp he'
        have ne : n ≠ i := fun z => by
          subst z
          rw [e1] at hk
          exact hjk ((intKind prog w).inj _ _ _ hk' hk)
        rw [List.mem_eraseIdx_iff_getElem]
        exact ⟨n, hn', ne, e1⟩
    rw [List.length_map, List.length_eraseIdx_of_lt hi] at hle
    have : (kbS T).length = es.length := hn.symm
    omega
theorem eraseAt_toList {α : Type} (xs : Array α) (i : Nat) : (SetTable.eraseAt xs i).toList = xs.toList.eraseIdx i := by
  unfold SetTable.eraseAt
  rw [List.eraseIdx_eq_take_drop_succ]
  simp
  exact List.take_of_length_le (by simp)
theorem fits_drop {t : SetTable} {n i : Nat} (h : t.fits n = true) (hi : i < n) : (t.drop i).fits (n - 1) = true := by
  unfold SetTable.fits SetTable.fill at h ⊢
  simp only [Bool.and_eq_true, beq_iff_eq, decide_eq_true_eq] at h ⊢
  unfold SetTable.drop
  have hp : t.place[i]? = some (t.place[i]'(by omega)) := Array.getElem?_eq_getElem (by omega)
  rw [hp]
  dsimp only
  have e1 : (SetTable.eraseAt t.place i).size = t.place.size - 1 := by
    rw [← Array.length_toList, eraseAt_toList, List.length_eraseIdx_of_lt (by rw [Array.length_toList]; omega), Array.length_toList]
  have e2 : (SetTable.insertAt t.dummies (SetTable.below t.dummies t.place[i]) t.place[i]).size = t.dummies.size + 1 := by
    rw [← Array.length_toList, (SetTable.insertAt_perm _ _ _).length_eq]; simp
  rw [e1, e2]
  omega
noncomputable def delK (k : Nat) (b0 b1 b2 b3 b4 : Bool) : List Nat := kb (b0 && decide ((0 : Int) ≠ k)) (b1 && decide ((1 : Int) ≠ k)) (b2 && decide ((2 : Int) ≠ k)) (b3 && decide ((3 : Int) ≠ k)) (b4 && decide ((4 : Int) ≠ k))
theorem kb_del : ∀ k, k < 5 → ∀ b0 b1 b2 b3 b4, bit k b0 b1 b2 b3 b4 = true → (delK k b0 b1 b2 b3 b4).length = (kb b0 b1 b2 b3 b4).length - 1 := by decide +kernel
theorem card_del (S : Int → Bool) (k : Nat) (hk : k < 5) (h : S k = true) : card5 (Sdel S k) = card5 S - 1 := kb_del k hk _ _ _ _ _ ((bit_S S k hk).trans h)
theorem Sdel_of (S : Int → Bool) (k : Int) (h : S k = false) : Sdel S k = S := by
  funext j
  unfold Sdel
  by_cases e : j = k
  · subst e; simp [h]
  · simp [e]
theorem cv_discard {x : Addr} {c : Bool} {T : Int → Bool} {k : Nat} {Q : AV → Hp → Prop} (h1 : H x = some (.set c T)) (q : Q .none (H.put x (.set false (Sdel T k)))) : CV prog w f (.builtin "set.discard") [.ref x, .int k] ε H Q := fun o s m nx vs S hv => by
  obtain ⟨_, _, rfl, hx, hi⟩ := hv.is2
  focus
      obtain rfl := hx.ofRef; obtain ⟨_, rfl⟩ := hi.ofInt
      rename_i t
      obtain ⟨ob, hm, hs, hS⟩ := S.set h1
      refine wpAny_call_entry PySem.F.slot_set_discard hS.typeIs PySem.F.entry_set_discard ?_ (PySem.F.args_set_discard_2 _ _)
      unfold Builtin.«set.discard» Builtin.Frozenset.oneOther
      simp only [List.isEmpty_nil, bind_assoc]
      unfold Builtin.Frozenset.addrOf
      refine wpAny_bind (wpAny_pure ?_)
      try dsimp only
      refine wpAny_bind (wpAny_pure ?_)
      try dsimp only
      obtain ⟨hex, es, ep, tb, hd, hel, hmem, hn, hf⟩ := hs.so
      have ho := S.mem hm
      have hb : es.size < scanBound := by rw [hn]; have := card_le T; unfold scanBound; omega
      have fin : ∀ h' tk ob', Heap.SameBut x s.heap h' → h'.get? x = some ob' → SetOk prog w ob' false (Sdel T k) → wpAny (model prog w) f.A.in1 (ret Value.none) (fun fin s' => ∃ r, fin = .done (.ret r) ∧ PE prog w f s m nx ε Q r s') Bot { s with heap := h', toks := tk } := fun h' tk ob' hsb ho' hk' => by
        obtain ⟨S', y⟩ := S.turn (s' := { s with heap := h', toks := tk }) h1 hm hsb ho' fun nx' z => .set (c := false) hk'
        exact wpAny_pure ⟨_, rfl, ⟨h', _, rfl⟩, _, .none, _, S', y, .none, q⟩
      refine wpAny_bind ?_
      unfold Builtin.Frozenset.withSetAsKey setDiscard
      refine wpAny_tryCatch (wpAny_holding (wpAny_bind ((intKind prog w).pyHash (intKind_is _ _ _ _) ?_)))
      unfold setDiscardHashed setFind setFindIn
      refine wpAny_bind (wpAny_bind (wpAny_setState_of (s := { s with toks := s.toks + 1 }) ho hd hf ?_))
      dsimp only
      rw [byScan_of (x := .int (k : Int) t) rfl hb hel]
      simp only [↓reduceIte]
      refine wpAny_bind (wpAny_rule ?_)
      refine wpAny_bind (wpAny_setScan_of (s := { s with toks := s.toks + 1 }) (intKind_is _ _ _ _) ho hd hf hel ?_)
      cases hr : List.findIdx? (fun e => (intKind prog w).is (k : Int) e.2) es.toList with
      | none =>
        dsimp only
        have hSk : T k = false := by
          cases q : T k with
          | false => rfl
          | true => obtain ⟨e, he, hp⟩ := (hmem k).mp q; have := List.findIdx?_eq_none_iff.mp hr e he; rw [hp] at this; exact Bool.noConfusion this
        refine wpAny_pure (wpAny_pure ?_)
        exact fin s.heap _ ob (Heap.SameBut.refl x s.heap) ho (by rw [Sdel_of T k hSk]; exact ⟨hs.so, hs.low, fun h => by cases h⟩)
      | some j =>
        dsimp only
        obtain ⟨hj, hpj, _⟩ := List.findIdx?_eq_some_iff_getElem.mp hr
        have hSk : T k = true := (hmem k).mpr ⟨_, List.getElem_mem hj, hpj⟩
        have hk5 : k < 5 := by have := hs.low k hSk; omega
        have hlen : es.toList.length = card5 T := by rw [Array.length_toList]; exact hn
        have hjs : j < es.size := by rw [← Array.length_toList]; exact hj
        refine wpAny_pure ?_
        refine wpAny_bind (wpAny_setState_of (s := { s with toks := s.toks + 1 }) ho hd hf ?_)
        dsimp only
        rw [Nat.zero_add]
        have hz : (SetTable.eraseAt es j).size = es.size - 1 := by
          rw [← Array.length_toList, eraseAt_toList, List.length_eraseIdx_of_lt hj, Array.length_toList]
        have hel' : ElemsOf (intKind prog w) (SetTable.eraseAt es j).toList := fun e he => hel e (by rw [eraseAt_toList] at he; exact List.mem_of_mem_eraseIdx he)
        have hmem' : ∀ k', Sdel T k k' = true ↔ ∃ e ∈ (SetTable.eraseAt es j).toList, (intKind prog w).is k' e.2 = true := fun k' => by
          rw [eraseAt_toList]
          unfold Sdel
          rw [Bool.and_eq_true, decide_eq_true_eq, hmem k']
          constructor
          · rintro ⟨⟨e, he, hp⟩, hne⟩
            refine ⟨e, ?_, hp⟩
            obtain ⟨n, hn', e1⟩ := List.mem_iff_getElem.mp he
            rw [List.mem_eraseIdx_iff_getElem]
            exact ⟨n, hn', fun z => hne (by subst z; rw [e1] at hpj; exact (intKind prog w).inj _ _ _ hp hpj), e1⟩
          · rintro ⟨e, he, hp⟩
            exact ⟨⟨e, List.mem_of_mem_eraseIdx he, hp⟩, fun z => by subst z; have := card_erase hmem hlen hj hpj he; rw [hp] at this; cases this⟩
        refine wpAny_bind (wpAny_storeSet_of (s := { s with toks := s.toks + 1 }) ho hd ?_ (by rw [sizeLine_eq, hz]; have := card_le T; omega))
        refine wpAny_bind (wpAny_point (wpAny_pure ?_))
        obtain ⟨g1, g2⟩ := SetOf_store (knd := intKind prog w) ho hex hd hel' hmem' (by rw [hz]; omega) (by rw [hz]; exact fits_drop hf hjs)
        obtain ⟨ob', k1, k2⟩ := g2.objOf
        have e5 : (SetTable.eraseAt es j).size = card5 (Sdel T k) := by rw [hz, hn, card_del T k hk5 hSk]
        rw [e5] at k2
        exact fin _ _ ob' (Heap.SameBut.update s.heap x _) k1 ⟨k2, fun j hj' => hs.low j (by unfold Sdel at hj'; exact (Bool.and_eq_true_iff.mp hj').1), fun h => by cases h⟩
noncomputable def freshSet (w : World) : Obj := { cls := .type "set", dict := none, data := .set #[] 0 (.fresh 0 0 (!w.params.followText "set-order")) }
theorem code_set_made {Q₁ : Value → Shared → Prop} (h : Q₁ (.ref s.heap.objs.size) { s with heap := s.heap.push (freshSet w) }) :
    codeAny (model prog w) A (.call (.builtin "set.__new__") ⟨[.type "set"], []⟩) (wants Q₁ E) s := by
  refine codeAny_of_tree ?_
  show wpAny _ A.in1 (do checkBuiltinCall "set.__new__" ⟨[.type "set"], []⟩; again (.builtin "set.__new__" ⟨[.type "set"], []⟩)) _ _ s
  refine wpAny_bind (wpAny_of_eq PySem.F.newCall_set_0 (wpAny_pure ⟨plainId_quiet PySem.F.plain_set_new _, codeAny_builtin PySem.F.entry_set_new ?_⟩))
  rw [Around.under_plainId PySem.F.plain_set_new _]
  unfold Builtin.«set.__new__» Builtin.Frozenset.newClass
  have hsub := sub_set_self
  obtain ⟨hp, g, d, tk, os⟩ := s
  dsimp only
  wp_walk
  refine wpAny_askSetting (wpAny_pure ?_)
  dsimp only
  simp only [newObj]
  refine wpAny_bind (wpAny_alloc (wpAny_pure ?_))
  exact wpAny_pure h
set_option maxHeartbeats 1000000 in
theorem call_set_made {Q : Value → Shared → Prop} (h : Q (.ref s.heap.objs.size) { s with heap := s.heap.push (freshSet w) }) : wpAny (model prog w) A (call (.type "set") []) Q E s := by
  obtain ⟨c, tl, hmro⟩ := PySem.F.called_set.mro
  have hmade := PySem.F.called_set.made
  have hsub := PySem.F.called_set.sub
  refine wpAny_call (codeAny_of_tree ?_)
  show wpAny _ _ (callAny (.type "set") _) _ _ _
  refine wpAny_pure ⟨Code.quiet_builtin _ (by decide +kernel), codeAny_builtin PySem.F.entry_type_call ?_⟩
  rw [Around.under_plain (weight_type_call_type "set" [] []) rfl]
  have h1 := PySem.F.called_set.notType
  have h2 := PySem.F.called_set.canCreate
  have hct := PySem.F.typeCall_set_0
  repeat (any_goals (first | assumption | wp_step))
  refine codeAny_mono (code_set_made (E := E) (Q₁ := fun obj s₁ => obj = .ref s.heap.objs.size ∧ s₁ = { s with heap := s.heap.push (freshSet w) }) ⟨rfl, rfl⟩) fun r s₁ hr => ?_
  cases r with
  | error e => exact hr
  | ok fl =>
    cases fl with
    | ret obj =>
      obtain ⟨rfl, rfl⟩ := hr
      have hS : (s.heap.push (freshSet w)).get? s.heap.objs.size = some (freshSet w) := Heap.get?_push_size _ rfl
      have hT : Shared.TypeIs { s with heap := s.heap.push (freshSet w) } (.ref s.heap.objs.size) "set" := ⟨_, hS, rfl⟩
      have hli := PySem.F.called_set.init.lookup
      have hbi := PySem.F.called_set.init.bind (.ref s.heap.objs.size)
      repeat (any_goals (first | assumption | wp_step))
      refine codeAny_mono (codeAny_call_builtin (R := wants (fun r s₂ => r = .none ∧ Q (.ref s.heap.objs.size) s₂) E) PySem.F.called_set.init.plain PySem.F.entry_set_init (check_set_init hT ?_)) fun r₂ s₂ hr₂ => ?_
      · unfold Builtin.«set.__init__» noKeywords
        wp_walk
        exact ⟨rfl, h⟩
      · cases r₂ with
        | error e => exact hr₂
        | ok fl₂ =>
          cases fl₂ with
          | ret r =>
            obtain ⟨rfl, hq⟩ := hr₂
            repeat (any_goals (first | assumption | wp_step))
          | _ => exact hr₂.elim
    | _ => exact hr.elim
theorem cv_set0 {Q : AV → Hp → Prop} (c : Bool) (q : ∀ x, H x = none → Q (.ref x) (H.put x (.set c fun _ => false))) : CV prog w f (.type "set") [] ε H Q := fun o s m nx vs S hv => by
  obtain rfl := hv.is0
  have lt : ∀ p ∈ nx, p.1 < s.heap.objs.size := fun p hp => Heap.lt_size (S.N p hp).1
  have hc : Canon w (freshSet w) fun _ => false := ⟨fun _ => 0, 0, rfl⟩
  have hso := hc.elems (prog := prog) (fun k h => by cases h)
  exact call_set_made ⟨⟨_, _, rfl⟩, _, .ref _, _, S.new (s' := { s with heap := s.heap.push (freshSet w) }) (S.F.push _) (S.N.push S.F _) rfl lt (.set (c := c) ⟨hso, (fun k h => by cases h), fun _ => hc⟩), .cons _ _, .ref _, q _ (S.fresh lt)⟩
end
end Mine
set_option Elab.async false
set_option linter.unusedVariables false
set_option maxRecDepth 100000
namespace Mine
open PySem PySem.W PySem.Calls PySem.Spec PyProof.Rows
section
variable {prog : Program} {w : World} {f : Fm} {ε : En} {H : Hp} {s s' : Shared} {m : Str → Option Value} {nx nx' : Led}

theorem e_div {l r : PySem.Expr} {pos : Pos} {Q : AV → Hp → Prop} (h : E1 prog w f l ε H fun a H₁ => E1 prog w f r ε H₁ fun b H₂ => ∃ i j, a = .int i ∧ b = .int j ∧ j ≠ 0 ∧ j.natAbs.log2 < 9000 ∧ Q (.int (Int.fdiv i j)) H₂) : E1 prog w f (.BinOp l .FloorDiv r pos) ε H Q :=
  e_bin (h.mono fun a H₁ h₁ => h₁.mono fun b H₂ ⟨i, j, e1, e2, hj, hl, q⟩ s m nx v u o S hv hu => by
    subst e1 e2; obtain ⟨_, rfl⟩ := hv.ofInt; obtain ⟨_, rfl⟩ := hu.ofInt
    exact floordiv_int hj ⟨.toks s _, nx, _, H₂, S.heapEq rfl, .refl _, .int _ _, q⟩ (Or.inl (PyProof.noPylong_of_log2 hl)))
theorem e_pow {l r : PySem.Expr} {pos : Pos} {Q : AV → Hp → Prop} (h : E1 prog w f l ε H fun a H₁ => E1 prog w f r ε H₁ fun b H₂ => ∃ i j, a = .int i ∧ b = .int j ∧ 0 ≤ j ∧ j ≤ 1000000 ∧ i.natAbs < 2 ^ 64 ∧ Q (.int (i ^ j.toNat)) H₂) : E1 prog w f (.BinOp l .Pow r pos) ε H Q :=
  e_bin (h.mono fun a H₁ h₁ => h₁.mono fun b H₂ ⟨i, j, e1, e2, h1, h2, h3, q⟩ s m nx v u o S hv hu => by
    subst e1 e2; obtain ⟨_, rfl⟩ := hv.ofInt; obtain ⟨_, rfl⟩ := hu.ofInt
    exact pow_int_small h1 h2 h3 ⟨.toks s _, nx, _, H₂, S.heapEq rfl, .refl _, .int _ _, q⟩)
theorem e_neg {e : PySem.Expr} {pos : Pos} {Q : AV → Hp → Prop} (h : E1 prog w f e ε H fun a H₁ => ∃ i, a = .int i ∧ Q (.int (-i)) H₁) : E1 prog w f (.UnaryOp .USub e pos) ε H Q := fun o s m nx S =>
  UnaryOp_ (h.use o S fun v s₁ nx₁ av H₁ a S₁ c d ⟨i, e1, q⟩ => by
    subst e1; obtain ⟨_, rfl⟩ := d.ofInt
    exact PyProof.Rows.neg_int ⟨a.trans (.toks _ _), nx₁, _, H₁, S₁.heapEq rfl, c, .int _ _, q⟩)
structure EAndI (prog : Program) (w : World) (f : Fm) (es : List PySem.Expr) (pos : Pos) (ε : En) (Q : AV → Hp → Prop) (b : Bool) (H : Hp) : Prop where
  (no : b = false → Q (.bool false) H) (yes : b = true → E1 prog w f (.BoolOp .And es pos) ε H Q)
inductive EAndP (prog : Program) (w : World) (f : Fm) (es : List PySem.Expr) (pos : Pos) (ε : En) (Q : AV → Hp → Prop) (v : AV) (H : Hp) : Prop
  | intro (b : Bool) : v = .bool b → EAndI prog w f es pos ε Q b H → EAndP prog w f es pos ε Q v H
theorem e_and {e₁ e₂ : PySem.Expr} {rest : List PySem.Expr} {pos : Pos} {Q : AV → Hp → Prop} (h : E1 prog w f e₁ ε H (EAndP prog w f (e₂ :: rest) pos ε Q)) :
    E1 prog w f (.BoolOp .And (e₁ :: e₂ :: rest) pos) ε H Q := fun o s m nx S => by
  refine BoolOp_and (h.use o S fun v s₁ nx₁ av H₁ a S₁ c d ⟨b, e1, q1, q2⟩ => ?_)
  subst e1; obtain rfl := d.ofBool
  refine wpAny_truthy_bool ?_
  cases b with
  | false => simpa using ⟨a, nx₁, _, H₁, S₁, c, VIn.bool _, q1 rfl⟩
  | true => simpa using wpAny_mono (q2 rfl o s₁ m nx₁ S₁) (fun v s₂ ⟨b, nx', av, H', p, q, t, u⟩ => ⟨a.trans b, nx', av, H', p, c.trans q, t, u⟩) fun _ _ x => x
theorem e_one {e : PySem.Expr} {op : BoolOp} {pos : Pos} {Q : AV → Hp → Prop} (h : E1 prog w f e ε H Q) : E1 prog w f (.BoolOp op [e] pos) ε H Q := fun o s m nx S => BoolOp_one (h o s m nx S)

/-! a pair unpacked into two names -/
inductive PairP (x y : Str) (ε : En) (Q : FV → En → Hp → Prop) (v : AV) (H : Hp) : Prop
  | intro (a b : AV) : v = .tup [a, b] → Q .next ((y, b) :: (x, a) :: ε) H → PairP x y ε Q v H
inductive SwapP (x y : Str) (ε : En) (Q : FV → En → Hp → Prop) (v : AV) (H : Hp) : Prop
  | intro (a b : AV) : v = .tup [a, b] → Q .next ((x, a) :: (y, b) :: ε) H → SwapP x y ε Q v H
theorem s_pair {x y : Str} {px py tpos pos : Pos} {k : Nat} {value : PySem.Expr} {Q : FV → En → Hp → Prop} (hx : f.env.kindOf x = some .local) (hy : f.env.kindOf y = some .local)
    (h : E1 prog w f value ε H (PairP x y ε Q))
    (hs : swapsWithSole [.Tuple [.Name x px, .Name y py] k tpos] value pos.line f.env = pure false := by rfl)
    (hw : swappedStores [.Tuple [.Name x px, .Name y py] k tpos] value f.env = pure none := by rfl) : S1 prog w f (exec (.Assign [.Tuple [.Name x px, .Name y py] k tpos] value pos) f.env) ε H Q := fun o s m nx S => by
  refine Assign_Tuple (h.use o S fun v s₁ nx₁ av H₁ a S₁ c d ⟨va, vb, e1, q⟩ => ?_) hs hw
  subst e1
  obtain ⟨t, vs, n, rfl, hm, va'⟩ := d.ofTup
  focus
    cases va' with
    | cons h1 r =>
      obtain ⟨_, rfl, h2⟩ := r.is1
      focus
        rename_i v1 v2
        refine unpackN_ (items := #[v1, v2]) S₁.F S₁.N ⟨_, S₁.mem hm, rfl, _, rfl⟩ o.hh rfl rfl fun h' F' N' => ?_
        have S₂ : St prog w f { s₁ with heap := h' } m nx₁ ε H₁ := ⟨F', N', S₁.loc, S₁.obj, S₁.own⟩
        refine assignInOrder_cons (assign_Name (store_ o S₂ h1 hx fun s₃ m₃ a₃ S₃ => ?_))
        refine assignInOrder_cons (assign_Name (store_ o S₃ h2 hy fun s₄ m₄ a₄ S₄ => assignInOrder_nil ?_))
        exact ⟨a.trans (Same.trans ⟨h', _, rfl⟩ (a₃.trans a₄)), m₄, nx₁, _, _, H₁, S₄, c, .next, q⟩
/-- two names swapped -/
theorem s_swap {x y : Str} {px py tpos pos : Pos} {k : Nat} {value : PySem.Expr} {Q : FV → En → Hp → Prop} (hx : f.env.kindOf x = some .local) (hy : f.env.kindOf y = some .local)
    (h : E1 prog w f value ε H (SwapP x y ε Q))
    (hs : swapsWithSole [.Tuple [.Name x px, .Name y py] k tpos] value pos.line f.env = pure false := by rfl)
    (hw : swappedStores [.Tuple [.Name x px, .Name y py] k tpos] value f.env = pure (some [x, y]) := by rfl) : S1 prog w f (exec (.Assign [.Tuple [.Name x px, .Name y py] k tpos] value pos) f.env) ε H Q := fun o s m nx S => by
  refine Assign_Tuple_swapped (h.use o S fun v s₁ nx₁ av H₁ a S₁ c d ⟨va, vb, e1, q⟩ => ?_) hs hw
  subst e1
  obtain ⟨t, vs, n, rfl, hm, va'⟩ := d.ofTup
  focus
    cases va' with
    | cons h1 r =>
      obtain ⟨_, rfl, h2⟩ := r.is1
      focus
        rename_i v1 v2
        refine unpackItemsN_ (items := #[v1, v2]) S₁.F S₁.N ⟨_, S₁.mem hm, rfl, _, rfl⟩ o.hh rfl fun h' F' N' => ?_
        have S₂ : St prog w f { s₁ with heap := h' } m nx₁ ε H₁ := ⟨F', N', S₁.loc, S₁.obj, S₁.own⟩
        show wpAny _ _ (assignInOrder [fun v => bindName f.env y v, fun v => bindName f.env x v] [v2, v1]) _ _ _
        refine assignInOrder_cons (bindName_ (store_ o S₂ h2 hy fun s₃ m₃ a₃ S₃ => ?_))
        refine assignInOrder_cons (bindName_ (store_ o S₃ h1 hx fun s₄ m₄ a₄ S₄ => assignInOrder_nil ?_))
        exact ⟨a.trans (Same.trans ⟨h', _, rfl⟩ (a₃.trans a₄)), m₄, nx₁, _, _, H₁, S₄, c, .next, q⟩

/-! lists of ints -/
noncomputable def avi (l : List Int) : List AV := l.map .int
theorem VAll.ints : ∀ {l : List Int} {vs : List Value}, VAll nx vs (avi l) → IntsAre vs l
  | [], _, h => by obtain rfl := h.is0; exact .nil
  | _ :: _, _, h => by
    obtain ⟨v, r, rfl, h1, h2⟩ := h.inv
    obtain ⟨t, rfl⟩ := h1.ofInt
    exact .cons _ t (VAll.ints h2)
theorem c_inL {x : Addr} {l : List Int} (k : Int) (h : H x = some (.list (avi l))) : Cmp prog w .In (.int k) (.ref x) H (l.any (· == k)) := fun f s m nx ε v u Q E o hr S hv hu q => by
  obtain ⟨_, rfl⟩ := hv.ofInt; obtain rfl := hu.ofRef
  obtain ⟨ob, hm, ho⟩ := S.obj _ _ h
  obtain ⟨_, _, rfl, va⟩ := ho.ofList
  exact in_list_ints ⟨_, S.mem hm, rfl, _, rfl⟩ va.ints (q _)
/-! plain data compared -/
mutual
noncomputable def pd : AV → PyData
  | .none => .none
  | .bool b => .bool b
  | .int i => .int i
  | .str x => .str x
  | .tup l => .tuple (pds l)
  | .ref _ => .none
noncomputable def pds : List AV → List PyData
  | [] => []
  | d :: r => pd d :: pds r
end
noncomputable def fit : Nat → AV → Bool
  | _, .none => true
  | _, .bool _ => true
  | _, .int _ => true
  | _, .str x => PyData.strOk x
  | n + 1, .tup l => l.all (fit n)
  | _, _ => false
mutual
theorem fit_in {h₀ h : Heap} {L : Addr} (N : News h₀ L h nx) : ∀ {v : Value} {d : AV} (n : Nat), VIn nx v d → fit n d = true → ∃ as, Reads h v (pd d) as
  | _, _, _, .none, _ => ⟨_, Reads.none⟩
  | _, _, _, .bool b, _ => ⟨_, Reads.bool b⟩
  | _, _, _, .int i t, _ => ⟨_, Reads.int i t⟩
  | _, _, _, .str x t, _ => ⟨_, Reads.str x t⟩
  | _, _, 0, .ref _, hk => by simp [fit] at hk
  | _, _, n + 1, .ref _, hk => by simp [fit] at hk
  | _, _, 0, .tup _ _, hk => by simp [fit] at hk
  | _, _, n + 1, .tup hm r, hk => by
    obtain ⟨as, q⟩ := fit_all N n r (by simpa [fit] using hk)
    rw [pd]
    exact ⟨as, reads_tuple_at (N.get hm) rfl rfl (by simpa using q)⟩
theorem fit_all {h₀ h : Heap} {L : Addr} (N : News h₀ L h nx) : ∀ {vs : List Value} {ds : List AV} (n : Nat), VAll nx vs ds → (∀ d ∈ ds, fit n d = true) → ∃ as, ReadsAll h vs (pds ds) as
  | _, _, _, .nil, _ => ⟨_, ReadsAll.nil⟩
  | _, _, n, .cons hd r, hk => by
    obtain ⟨as, q⟩ := fit_in N n hd (hk _ (.head _))
    obtain ⟨bs, p⟩ := fit_all N n r fun d hm => hk d (.tail _ hm)
    rw [pds]
    exact ⟨_, ReadsAll.cons q p⟩
end
theorem fits_lay (n : Nat) (ih : ∀ d, fit n d = true → (pd d).canLay0 = true ∧ (pd d).depth ≤ n) : ∀ ds : List AV, (∀ d ∈ ds, fit n d = true) → PyData.canLayAll0 (pds ds) = true ∧ PyData.depthAll (pds ds) ≤ n := by
  intro ds
  induction ds with
  | nil => intro _; simp [pds, PyData.canLayAll0, PyData.depthAll]
  | cons d ds hi =>
    intro h
    have h1 := ih d (h d (.head _))
    have h2 := hi fun e he => h e (.tail _ he)
    simp only [pds, PyData.canLayAll0, PyData.depthAll, h1.1, h2.1, Bool.and_self, true_and]
    have a1 := h1.2
    have a2 := h2.2
    omega
theorem fit_lay : ∀ (n : Nat) (d : AV), fit n d = true → (pd d).canLay0 = true ∧ (pd d).depth ≤ n := by
  intro n
  induction n with
  | zero =>
    intro d h
    cases d <;> simp_all [fit, pd, PyData.canLay0, PyData.depth]
  | succ n ih =>
    intro d h
    cases d with
    | tup ds =>
      have q := fits_lay n ih ds (by simpa [fit] using h)
      have q2 := q.2
      simp only [pd, PyData.canLay0, PyData.depth, q.1, true_and]
      omega
    | _ => simp_all [fit, pd, PyData.canLay0, PyData.depth]
mutual
theorem eqv_self : ∀ d : AV, PyData.eqv (pd d) (pd d) = true
  | .none => by simp [pd, PyData.eqv]
  | .bool b => by simp [pd, PyData.eqv]
  | .int i => by simp [pd, PyData.eqv]
  | .str x => by simp [pd, PyData.eqv]
  | .ref a => by simp [pd, PyData.eqv]
  | .tup l => by simp only [pd, PyData.eqv]; exact eqvAll_self l
theorem eqvAll_self : ∀ l : List AV, PyData.eqvAll (pds l) (pds l) = true
  | [] => by simp [pds, PyData.eqvAll]
  | d :: r => by simp only [pds, PyData.eqvAll, Bool.and_eq_true]; exact ⟨eqv_self d, eqvAll_self r⟩
end
theorem c_neT {l k : List AV} (h1 : ∀ d ∈ l, fit 8 d = true) (h2 : ∀ d ∈ k, fit 8 d = true) : Cmp prog w .NotEq (.tup l) (.tup k) H (!PyData.eqvAll (pds l) (pds k)) := fun f s m nx ε v u Q E o hr S hv hu q => by
  obtain ⟨as, ra⟩ := fit_in S.N 9 hv (by simpa [fit] using h1)
  obtain ⟨bs, rb⟩ := fit_in S.N 9 hu (by simpa [fit] using h2)
  have la := fit_lay 9 (.tup l) (by simpa [fit] using h1)
  have lb := fit_lay 9 (.tup k) (by simpa [fit] using h2)
  have := o.un
  refine ne_dataH ra rb ?_ ?_ (by omega) (by rw [pd, pd, PyData.eqv]; exact q _)
  · unfold SeqAt.shaped; rw [la.1, Bool.true_and]; exact decide_eq_true (Nat.le_trans la.2 (by decide))
  · unfold SeqAt.shaped; rw [lb.1, Bool.true_and]; exact decide_eq_true (Nat.le_trans lb.2 (by decide))
theorem c_neL {x y : Addr} {l k : List AV} (hx : H x = some (.list l)) (hy : H y = some (.list k)) (h1 : ∀ d ∈ l, fit 8 d = true) (h2 : ∀ d ∈ k, fit 8 d = true) : Cmp prog w .NotEq (.ref x) (.ref y) H (!PyData.eqvAll (pds l) (pds k)) := fun f s m nx ε v u Q E o hr S hv hu q => by
  obtain rfl := hv.ofRef; obtain rfl := hu.ofRef
  obtain ⟨ob, hm, ho⟩ := S.obj _ _ hx
  obtain ⟨ob2, hm2, ho2⟩ := S.obj _ _ hy
  obtain ⟨_, _, rfl, va⟩ := ho.ofList
  obtain ⟨_, _, rfl, vb⟩ := ho2.ofList
  focus
      obtain ⟨as, ra⟩ := fit_all S.N 8 va h1
      obtain ⟨bs, rb⟩ := fit_all S.N 8 vb h2
      have la := fit_lay 9 (.tup l) (by simpa [fit] using h1)
      have lb := fit_lay 9 (.tup k) (by simpa [fit] using h2)
      simp only [pd, PyData.canLay0, PyData.depth] at la lb
      have := o.un
      refine ne_dataH (reads_list_at (S.mem hm) rfl rfl (by simpa using ra)) (reads_list_at (S.mem hm2) rfl rfl (by simpa using rb)) ?_ ?_ (by omega) (by rw [PyData.eqv]; exact q _)
      · unfold SeqAt.shaped; simp only [PyData.canLay0, PyData.depth]; rw [la.1, Bool.true_and]; exact decide_eq_true (Nat.le_trans la.2 (by decide))
      · unfold SeqAt.shaped; simp only [PyData.canLay0, PyData.depth]; rw [lb.1, Bool.true_and]; exact decide_eq_true (Nat.le_trans lb.2 (by decide))
end
end Mine
set_option Elab.async false
set_option linter.unusedVariables false
set_option maxRecDepth 100000
namespace Mine
open PySem PySem.W PySem.Calls PySem.Spec PyProof.Rows
section
variable {prog : Program} {w : World} {f : Fm} {ε : En} {H : Hp} {s s' : Shared} {m : Str → Option Value} {nx nx' : Led} {A : Around} {E : Value → Shared → Prop}

theorem entry_set_eq : entryFor table "set.__eq__" = some Builtin.«frozenset.__eq__» :=
  entryFor_alias (id' := "frozenset.__eq__") (by kernel_rfl) (by first | rfl | decide +kernel | (unfold String.splitOn; simp +decide [String.splitOnAux])) (by decide +kernel) (by kernel_rfl)
theorem sub_set_frozen : isSubtype (.type "set") (.type "frozenset") = pure false := by rw [isSubtype_type]; kernel_rfl
theorem set_eq_walk {x y : Addr} {ox oy : Obj} {ex ey : Array (Int × Value)} {px py : Nat} {tx ty : SetTable} {T : Int → Bool} {Q : Fin → Shared → Prop}
    (hx : s.heap.get? x = some ox) (cx : ox.cls = .type "set") (dx : ox.data = .set ex px tx) (fx : tx.fits ex.size = true) (hy : s.heap.get? y = some oy) (cy : oy.cls = .type "set") (dy : oy.data = .set ey py ty) (fy : ty.fits ey.size = true)
    (hn : ex.size = ey.size) (hS : s.heap.SetOf (intKind prog w) y T ey.size) (hex : ElemsOf (intKind prog w) ex.toList) (hey : ElemsOf (intKind prog w) ey.toList) (hmem : ∀ k, (∃ e ∈ ex.toList, (intKind prog w).is k e.2 = true) → T k = true)
    (q : Q (.done (.ret (.bool true))) s) : wpAny (model prog w) A (Builtin.«frozenset.__eq__» ⟨[.ref x, .ref y], []⟩) Q E s := by
  have tX : s.TypeIs (.ref x) "set" := ⟨_, hx, cx⟩
  have tY : s.TypeIs (.ref y) "set" := ⟨_, hy, cy⟩
  have hs := sub_set_self
  unfold Builtin.«frozenset.__eq__»
  wp_delta
  refine wpAny_bind (wpAny_pure ?_)
  try dsimp only
  refine wpAny_bind ?_
  refine wpAny_bind (wpAny_isInstance (T := "set") (b := true) tY hs ?_)
  refine wpAny_pure ?_
  try dsimp only
  simp only [Bool.not_true, Bool.false_eq_true, if_false]
  refine wpAny_bind (wpAny_pure ?_)
  unfold Builtin.Frozenset.addrOf
  refine wpAny_bind (wpAny_pure ?_)
  try dsimp only
  refine wpAny_bind ?_
  unfold Builtin.Frozenset.sizeOf
  refine wpAny_bind (wpAny_setEntries_of hx dx fx ?_)
  refine wpAny_pure ?_
  try dsimp only
  refine wpAny_bind ?_
  refine wpAny_bind (wpAny_setEntries_of hy dy fy ?_)
  refine wpAny_pure ?_
  try dsimp only
  refine wpAny_bind ?_
  have e0 : (ex.size != ey.size) = false := by simp [hn]
  rw [e0]
  simp only [Bool.false_eq_true, if_false]
  refine wpAny_bind ?_
  refine wpAny_bind (wpAny_isInstance (T := "set") (b := false) tX sub_set_frozen ?_)
  refine wpAny_pure ?_
  try dsimp only
  simp only [Bool.false_eq_true, if_false]
  unfold Builtin.Frozenset.subsetOf
  unfold Builtin.Frozenset.sizeOf
  refine wpAny_bind ?_
  refine wpAny_bind (wpAny_setEntries_of hx dx fx ?_)
  refine wpAny_pure ?_
  try dsimp only
  refine wpAny_bind ?_
  refine wpAny_bind (wpAny_setEntries_of hy dy fy ?_)
  refine wpAny_pure ?_
  try dsimp only
  rw [if_neg (by omega)]
  refine wpAny_bind (wpAny_setEpoch_of hx dx fx ?_)
  refine wpAny_bind ?_
  have quiet : ∀ e ∈ ex.toList ++ ey.toList, ∀ (R : Bool → Shared → Prop), R true s → wpAny (model prog w) A (Builtin.Frozenset.quietEq e.2) R E s := fun e he R r => by
    obtain ⟨⟨k, hk, _⟩, _⟩ := (List.mem_append.mp he).elim (hex e) (hey e)
    obtain ⟨t, et⟩ := Value.isInt_shape hk
    rw [et]
    exact wpAny_pure r
  unfold Builtin.Frozenset.walkUnseen
  refine wpAny_bind (wpAny_setEntries_of hx dx fx ?_)
  try dsimp only
  refine wpAny_bind (wpAny_setEntries_of hy dy fy ?_)
  try dsimp only
  refine wpAny_bind (wpAny_mono (wpAny_forIn_list _ (fun rest b s' => s' = s ∧ b.1 = none ∧ ∀ e ∈ rest, e ∈ ex.toList ++ ey.toList) (fun b s' => s' = s ∧ b.1 = none) ?_ ?_ _ _ ⟨rfl, rfl, fun _ h => h⟩) (fun b s' hb => ?_) fun _ _ x => x)
  · rintro e rest b s' ⟨rfl, hb, hr⟩
    refine wpAny_bind (quiet e (hr _ (.head _)) _ ?_)
    simp only [Bool.not_true, Bool.false_eq_true, if_false]
    exact wpAny_pure ⟨rfl, rfl, fun e he => hr e (.tail _ he)⟩
  · rintro b s' ⟨rfl, hb, _⟩
    exact ⟨rfl, hb⟩
  obtain ⟨rfl, hb⟩ := hb
  obtain ⟨b1, b2⟩ := b
  dsimp only at hb
  subst hb
  refine wpAny_pure ?_
  try dsimp only
  refine wpAny_bind (wpAny_mono (wpAny_forIn_list _ (fun rest b s'' => s'' = s' ∧ b.1 = none ∧ ∀ e ∈ rest, e ∈ ex.toList) (fun b s'' => s'' = s' ∧ b.1 = none) ?_ ?_ _ _ ⟨rfl, rfl, fun _ h => h⟩) (fun b s'' hb => ?_) fun _ _ x => x)
  · rintro e rest b s'' ⟨rfl, hb, hr⟩
    obtain ⟨⟨k, hk, hh⟩, hsc⟩ := hex e (hr _ (.head _))
    obtain ⟨h, v⟩ := e
    dsimp only at hk hh hsc ⊢
    subst hh
    refine wpAny_bind ?_
    refine wpAny_holding ?_
    refine wpAny_setFind_of hk hsc hS fun r hr' => ?_
    have : r.isNone = false := by
      have := hmem k ⟨_, hr _ (.head _), hk⟩
      rw [this] at hr'
      cases r <;> simp_all
    rw [this]
    simp only [Bool.false_eq_true, if_false]
    refine wpAny_bind ?_
    unfold Builtin.Frozenset.unchanged
    refine wpAny_bind (wpAny_setEpoch_of hx dx fx ?_)
    simp only [bne_self_eq_false, Bool.false_eq_true, if_false]
    refine wpAny_pure ?_
    exact wpAny_pure ⟨rfl, rfl, fun e he => hr e (.tail _ he)⟩
  · rintro b s'' ⟨rfl, hb, _⟩
    exact ⟨rfl, hb⟩
  obtain ⟨rfl, hb⟩ := hb
  obtain ⟨b1, b2⟩ := b
  dsimp only at hb
  subst hb
  refine wpAny_pure ?_
  exact wpAny_pure q
theorem c_setEq {x y : Addr} {c d : Bool} {T : Int → Bool} (h1 : H x = some (.set c T)) (h2 : H y = some (.set d T)) : Cmp prog w .Eq (.ref x) (.ref y) H true := fun f s m nx ε v u Q E o hr S hv hu q => by
  obtain rfl := hv.ofRef; obtain rfl := hu.ofRef
  obtain ⟨ox, hmx, hsx, hSx⟩ := S.set h1
  obtain ⟨oy, hmy, hsy, hSy⟩ := S.set h2
  obtain ⟨hexx, ex, px, tx, dx, elx, memx, nx', fx⟩ := hsx.so
  obtain ⟨hexy, ey, py, ty, dy, ely, memy, ny', fy⟩ := hsy.so
  have := o.un
  refine wpAny_richCompare_same_room (op := .Eq) (T := "set") ⟨_, S.mem hmx, hexx.1⟩ ⟨_, S.mem hmy, hexy.1⟩ PySem.F.slot_set_eq ?_ (by omega)
  refine wpAny_call_entry PySem.F.slot_set_eq ⟨_, S.mem hmx, hexx.1⟩ entry_set_eq ?_ (PySem.F.args_set_eq_2 _ _)
  exact set_eq_walk (S.mem hmx) hexx.1 dx fx (S.mem hmy) hexy.1 dy fy (by omega) (ny' ▸ hSy) elx ely (fun k h => (memx k).mpr h) ⟨_, rfl, by simp, q s.toks⟩
end
end Mine
set_option Elab.async false
set_option linter.unusedVariables false
set_option maxRecDepth 100000
namespace Mine
open PySem PySem.W PySem.Calls PySem.Spec PyProof.Rows
section
variable {prog : Program} {w : World} {f : Fm} {ε : En} {H : Hp} {s s' : Shared} {m : Str → Option Value} {nx nx' : Led} {A : Around} {E : Value → Shared → Prop}
theorem ints_VAll : ∀ {vs : List Value} {l : List Int}, IntsAre vs l → VAll nx vs (avi l)
  | _, _, .nil => .nil
  | _, _, .cons n t r => .cons (.int n t) (ints_VAll r)
theorem call_sort {D : Addr} {vs : List Value} {ns : List Int} {L : Addr} {h₀ : Heap} {Q : Value → Shared → Prop} (F : Fr h₀ L s.heap m) (N : News h₀ L s.heap ((D, listOf vs.toArray 0) :: nx)) (hD : ∀ q ∈ nx, q.1 < D) (hi : IntsAre vs ns) (h64 : ns.length < 64)
    (h : ∀ vs' ns' c h', Fr h₀ L h' m → News h₀ L h' ((D, listOf (List.toArray vs') c) :: nx) → IntsAre vs' ns' → ns'.Perm ns → Q .none { s with heap := h' }) :
    wpAny (model prog w) A (call (.builtin "list.sort") [.ref D]) Q E s :=
  ksk_lsort (news' := fun o => (D, o) :: nx) F N (fun o => .head fun p hp => Nat.ne_of_lt (hD p hp)) (by simp) hi h64 fun vs' ns' c h' F' N' hi' _ hp _ _ => h vs' ns' c h' F' N' hi' hp
theorem exists_ints : ∀ {vs : List Value} {ks : List Int}, vs.length = ks.length → (∀ (j : Nat) (v : Value), vs[j]? = some v → ∃ k t, ks[j]? = some k ∧ v = .int k t) → IntsAre vs ks
  | [], [], _, _ => .nil
  | v :: vs, k :: ks, hl, h => by
    obtain ⟨k', t, e1, rfl⟩ := h 0 v rfl
    simp only [List.getElem?_cons_zero, Option.some.injEq] at e1
    subst e1
    exact .cons _ t (exists_ints (by simpa using hl) fun j v hj => by simpa using h (j + 1) v (by simpa using hj))
  | [], _ :: _, hl, _ => by simp at hl
  | _ :: _, [], hl, _ => by simp at hl
theorem cv_sortedD {d : Addr} {l : List (Int × AV)} {Q : AV → Hp → Prop} (h1 : H d = some (.dict l)) (hd : d ≠ sysModules) (h64 : l.length < 64) (q : ∀ y ns, H y = none → ns.Perm (l.map (·.1)) → Q (.ref y) (H.put y (.list (avi ns)))) :
    CV prog w f (.builtin "sorted") [.ref d] ε H Q := fun o s m nx vs S hv => by
  obtain ⟨_, rfl, hx⟩ := hv.is1
  focus
    obtain rfl := hx.ofRef
    obtain ⟨ob, kvs, hm, hk, kv, hD⟩ := S.dict h1
    obtain ⟨ep, hat⟩ := hD.dictAt
    have el : kvs.length = l.length := by have := congrArg List.length kv.keys; simpa using this
    refine kdu_sorted (kdl_dict (knd := intKind prog w) (kvs := kvs) (ep := ep) (by simpa using hd)) o.hh S.F S.N hat (by rw [sizeLine_eq]; omega) fun D h' tk vs F' N' l1 hl hP => ?_
    have hi : IntsAre vs (kvs.map (·.1)) := exists_ints (by simpa using hl) fun j v hj => by
      obtain ⟨k, x, e1, e2⟩ := hP j v hj
      obtain ⟨t, rfl⟩ := Value.isInt_shape e2
      exact ⟨k, t, by rw [List.getElem?_map, e1]; rfl, rfl⟩
    refine call_sort F' N' l1 hi (by simp; omega) fun vs' ns' c h'' F'' N'' hi' hp => ?_
    have S' := S.new (s' := { s with heap := h'', toks := tk }) F'' N'' rfl l1 (.list (n := c) (ints_VAll hi'))
    exact ⟨⟨h'', _, rfl⟩, _, .ref D, _, S', .cons _ _, .ref D, q D ns' (S.fresh l1) (kv.keys ▸ hp)⟩

/-! a set walked over -/
theorem slot_si_next : Slot "set_iterator" "__next__" "set_iterator.__next__" :=
  .of (owner := "set_iterator") (n := "__next__") (by rw [typeLookup_type, builtinLookup_eq_fast]; kernel_rfl) (by decide +kernel) (by decide +kernel) (by decide +kernel)
    (by first | exact .inl (by decide +kernel) | exact .inr (by decide +kernel)) (by rw [isSubtype_type]; kernel_rfl)
theorem entry_si_next : entryFor table "set_iterator.__next__" = some Builtin.«set_iterator.__next__» := entryFor_of_tree (by kernel_rfl)
theorem owner_si : Manifest.owners.lookup (String.ofList ['r', 'o', 't', 'a', 'r', 'e', 't', 'i', '_', 't', 'e', 's'].reverse) = some Manifest.sig_set_iterator := by kernel_rfl
theorem args_si_next (a : Value) : argsOk "set_iterator.__next__" ⟨[a], []⟩ := by
  unfold argsOk; rw [signature?_of (id := "set_iterator.__next__") (n := ['_', '_', 't', 'x', 'e', 'n', '_', '_']) (o := ['r', 'o', 't', 'a', 'r', 'e', 't', 'i', '_', 't', 'e', 's']) (by kernel_rfl) owner_si]; kernel_rfl
theorem slot_si_iter : Slot "set_iterator" "__iter__" "set_iterator.__iter__" :=
  .of (owner := "set_iterator") (n := "__iter__") (by rw [typeLookup_type, builtinLookup_eq_fast]; kernel_rfl) (by decide +kernel) (by decide +kernel) (by decide +kernel)
    (by first | exact .inl (by decide +kernel) | exact .inr (by decide +kernel)) (by rw [isSubtype_type]; kernel_rfl)
theorem args_si_iter (a : Value) : argsOk "set_iterator.__iter__" ⟨[a], []⟩ := by
  unfold argsOk; rw [signature?_of (id := "set_iterator.__iter__") (n := ['_', '_', 'r', 'e', 't', 'i', '_', '_']) (o := ['r', 'o', 't', 'a', 'r', 'e', 't', 'i', '_', 't', 'e', 's']) (by kernel_rfl) owner_si]; kernel_rfl
theorem entry_si_iter : entryFor table "set_iterator.__iter__" = some Builtin.«dict_keyiterator.__iter__» :=
  entryFor_alias (id' := "dict_keyiterator.__iter__") (by kernel_rfl) (by first | rfl | decide +kernel | (unfold String.splitOn; simp +decide [String.splitOnAux])) (by decide +kernel) (by kernel_rfl)
theorem entry_set_iter' : entryFor table "set.__iter__" = some Builtin.«frozenset.__iter__» :=
  entryFor_alias (id' := "frozenset.__iter__") (by kernel_rfl) (by first | rfl | decide +kernel | (unfold String.splitOn; simp +decide [String.splitOnAux])) (by decide +kernel) (by kernel_rfl)
noncomputable def canonObj (w : World) (S : Int → Bool) (ts : Nat → Tok) (ep : Nat) : Obj := { cls := .type "set", dict := none, data := .set (ents (kbS S) ts) ep (seenTab (!w.params.followText "set-order") (kbS S)) }
theorem seenFits (S : Int → Bool) (ts : Nat → Tok) (b : Bool) : (seenTab b (kbS S)).fits (ents (kbS S) ts).size = true := by
  have : (ents (kbS S) ts).size = (kbS S).length := by unfold ents; simp
  rw [this]; exact seen_fits _ _ _ _ _ _
theorem seenPlain (S : Int → Bool) (b : Bool) : (seenTab b (kbS S)).plain = true := by unfold seenTab; split <;> rfl
theorem seenLed (S : Int → Bool) (b : Bool) : (seenTab b (kbS S)).led = b := by unfold seenTab; split <;> rfl
theorem seenPlace (S : Int → Bool) (b : Bool) : (seenTab b (kbS S)).place = (kbS S).toArray := by unfold seenTab; split <;> rfl
theorem hint_set {r : Addr} {Q : Bool → Shared → Prop} (hT : s.TypeIs (.ref r) "set") (h : Q false s) : wpAny (model prog w) A (Builtin.List.listLengthHint (.ref r)) Q E s := by
  unfold Builtin.List.listLengthHint
  refine wpAny_bind (wpAny_specialOf hT PySem.F.slot_set_len.lookup ?_)
  generalize hid : ("set.__len__" : String) = id0
  wp_delta
  rw [show splitId id0 = some ("set", "__len__") from by subst hid; decide +kernel]
  subst hid
  refine wpAny_bind (wpAny_isInstance (T := "set") (b := true) hT (by rw [isSubtype_type]; kernel_rfl) ?_)
  refine wpAny_ite_split (fun hab => absurd hab (by decide)) (fun _ => ?_)
  refine wpAny_ite_split (fun _ => ?_) (fun hab => absurd (by decide +kernel) hab)
  refine wpAny_bind (wpAny_typeOf hT ?_)
  exact wpAny_pure h
/-- the order in which a set is walked -/
noncomputable def ordOf (w : World) (a : Addr) (S : Int → Bool) (ts : Nat → Tok) (ep : Nat) : Array (Int × Value) :=
  if w.params.followText "set-order" then pickOrder (w.params.setOrder a ep) (ents (kbS S) ts) else ents (kbS S) ts
noncomputable def slotAt (w : World) (S : Int → Bool) : Nat → Nat
  | 0 => 0
  | i + 1 => if w.params.followText "set-order" then 0 else (kbS S).getD i 0 + 1
noncomputable def siObj (w : World) (a : Addr) (S : Int → Bool) (ep : Nat) (i : Nat) : Obj := { cls := .type "set_iterator", data := .fields #[rawInt (slotAt w S i : Nat), rawInt (i : Nat), .ref a, rawInt (kbS S).length, rawInt ep] }
theorem ents_size (S : Int → Bool) (ts : Nat → Tok) : (ents (kbS S) ts).size = (kbS S).length := by unfold ents; simp
theorem pyIter_set {a : Addr} {S : Int → Bool} {ts : Nat → Tok} {ep : Nat} {Q : Value → Shared → Prop} (ha : s.heap.get? a = some (canonObj w S ts ep)) (h : Q (.ref s.heap.objs.size) { s with heap := s.heap.push (siObj w a S ep 0) }) :
    wpAny (model prog w) A (pyIter (.ref a)) Q E s := by
  have hT : s.TypeIs (.ref a) "set" := ⟨_, ha, rfl⟩
  refine wpAny_pyIter_slot hT PySem.F.slot_set_iter (wpAny_call_entry PySem.F.slot_set_iter hT entry_set_iter' ?_ (PySem.F.args_set_iter_1 _))
  unfold Builtin.«frozenset.__iter__»
  refine wpAny_bind (wpAny_pure ?_)
  unfold Builtin.Frozenset.sizeOf
  refine wpAny_bind (wpAny_bind (wpAny_setEntries_of ha rfl (seenFits S ts _) (wpAny_pure ?_)))
  unfold setDrawn
  refine wpAny_bind (wpAny_bind (wpAny_setState_of ha rfl (seenFits S ts _) ?_))
  dsimp only
  unfold setsByText
  refine wpAny_bind (wpAny_bind (wpAny_askSetting (wpAny_pure ?_)))
  refine wpAny_of_eq (a := false) (by
    show pure (!_ && (!(seenTab _ (kbS S)).plain && _)) = pure false
    rw [seenPlain]; simp) ?_
  simp only [Bool.false_eq_true, if_false]
  refine wpAny_bind (wpAny_pure ?_)
  refine wpAny_bind (wpAny_setEpoch_of ha rfl (seenFits S ts _) ?_)
  refine wpAny_bind ?_
  unfold newFields
  refine wpAny_newObj_type (wpAny_pure ⟨_, rfl, "set_iterator", _, ⟨_, Heap.get?_push_size _ rfl, rfl⟩, slot_si_next.lookup, ?_⟩)
  rw [ents_size]
  exact h
theorem below_at : ∀ (b0 b1 b2 b3 b4 : Bool), ∀ i, i < (kb b0 b1 b2 b3 b4).length + 1 → SetTable.below (kb b0 b1 b2 b3 b4).toArray (match i with | 0 => 0 | i + 1 => (kb b0 b1 b2 b3 b4).getD i 0 + 1) = i := by decide +kernel
theorem setNext_wp {a : Addr} {S : Int → Bool} {ts : Nat → Tok} {ep i : Nat} {Q : Option (Value × Nat) → Shared → Prop} (ha : s.heap.get? a = some (canonObj w S ts ep)) (hi : i ≤ (kbS S).length)
    (h : Q ((ordOf w a S ts ep)[i]?.map fun e => (e.2, slotAt w S (i + 1))) s) : wpAny (model prog w) A (setNext a (slotAt w S i) i ep) Q E s := by
  unfold setNext
  refine wpAny_bind (wpAny_setState_of ha rfl (seenFits S ts _) ?_)
  dsimp only
  unfold setsByText
  refine wpAny_bind (wpAny_bind (wpAny_askSetting (wpAny_pure ?_)))
  show wpAny _ _ (if w.params.followText "set-order" = true then _ else _) _ _ _
  cases hb : w.params.followText "set-order" with
  | true =>
    have e1 : ordOf w a S ts ep = pickOrder (w.params.setOrder a ep) (ents (kbS S) ts) := by unfold ordOf; rw [hb]; rfl
    have e2 : slotAt w S i = 0 := by cases i <;> simp [slotAt, hb]
    have e3 : slotAt w S (i + 1) = 0 := by simp [slotAt, hb]
    rw [e1, e3] at h
    rw [e2]
    simp only [if_true, bne_self_eq_false, Bool.false_eq_true, if_false]
    refine wpAny_bind ?_
    unfold setWalk
    refine wpAny_bind (wpAny_setState_of ha rfl (seenFits S ts _) ?_)
    dsimp only
    unfold setsByText
    refine wpAny_bind (wpAny_bind (wpAny_askSetting (wpAny_pure ?_)))
    show wpAny _ _ (if w.params.followText "set-order" = true then _ else _) _ _ _
    rw [hb]
    simp only [if_true]
    refine wpAny_bind (wpAny_askSetting (wpAny_pure (wpAny_pure ?_)))
    exact h
  | false =>
    have e1 : ordOf w a S ts ep = ents (kbS S) ts := by unfold ordOf; rw [hb]; rfl
    rw [e1] at h
    simp only [Bool.false_eq_true, if_false]
    refine wpAny_ite_split (fun hab => absurd hab ?_) (fun _ => ?_)
    · show ¬ ((!(seenTab _ (kbS S)).plain && _) = true)
      rw [seenPlain]; simp
    refine wpAny_bind (wpAny_of_eq (a := ()) ?_ ?_)
    · show (if (!(seenTab _ (kbS S)).led && _) = true then _ else _) = _
      rw [seenLed]; rfl
    refine wpAny_pure ?_
    rw [seenPlace]
    have e3 : SetTable.below (kbS S).toArray (slotAt w S i) = i := by
      have := below_at (S 0) (S 1) (S 2) (S 3) (S 4) i (by have : (kb (S 0) (S 1) (S 2) (S 3) (S 4)).length = (kbS S).length := rfl; omega)
      cases i with
      | zero => simpa [slotAt, kbS] using this
      | succ i => simpa [slotAt, hb, kbS] using this
    have e4 : slotAt w S (i + 1) = (kbS S).getD i 0 + 1 := by simp [slotAt, hb]
    rw [e3]
    rw [e4] at h
    by_cases hlt : i < (kbS S).length
    · have e5 : (ents (kbS S) ts)[i]? = some (hashInt (((kbS S)[i]'hlt : Nat) : Int), Value.int (((kbS S)[i]'hlt : Nat) : Int) (ts ((kbS S)[i]'hlt))) := by
        unfold ents; simp [hlt]
      have e6 : (kbS S).toArray[i]? = some ((kbS S)[i]'hlt) := by simp [hlt]
      have e7 : (kbS S).getD i 0 = (kbS S)[i]'hlt := by simp [List.getD_eq_getElem?_getD, hlt]
      rw [e5, e6]
      rw [e5, e7] at h
      exact h
    · have e5 : (ents (kbS S) ts)[i]? = none := by rw [Array.getElem?_eq_none]; rw [ents_size]; omega
      rw [e5]
      rw [e5] at h
      exact h
theorem next_set {a it : Addr} {S : Int → Bool} {ts : Nat → Tok} {ep i : Nat} {e : Int × Value} {Q : Option Value → Shared → Prop} (ha : s.heap.get? a = some (canonObj w S ts ep)) (hi : s.heap.get? it = some (siObj w a S ep i)) (hlt : i < (kbS S).length)
    (hx : (ordOf w a S ts ep)[i]? = some e) (h : ∀ h', Heap.SameBut it s.heap h' → h'.get? it = some (siObj w a S ep (i + 1)) → Q (some e.2) { s with heap := h' }) : wpAny (model prog w) A (pyNext (.ref it)) Q E s := by
  have hT : s.TypeIs (.ref it) "set_iterator" := ⟨_, hi, rfl⟩
  unfold pyNext
  refine wpAny_bind (wpAny_attempt (wpAny_callSpecial?_slot (name := Str.ofString "__next__") hT slot_si_next
    (wpAny_call_entry slot_si_next hT entry_si_next ?_ (args_si_next _))))
  unfold Builtin.«set_iterator.__next__»
  refine wpAny_bind (wpAny_pure ?_)
  try dsimp only
  refine wpAny_bind (wpAny_fieldsOf hi rfl ?_)
  try dsimp only
  refine wpAny_bind (wpAny_setEntries_of ha rfl (seenFits S ts _) ?_)
  have e1 : (((ents (kbS S) ts).size : Int) != ((kbS S).length : Int)) = false := by rw [ents_size]; simp
  dsimp only [rawInt]
  rw [e1]
  simp only [Bool.false_eq_true, if_false]
  refine wpAny_bind ?_
  simp only [Int.toNat_natCast]
  refine setNext_wp ha (Nat.le_of_lt hlt) ?_
  rw [hx]
  dsimp only [Option.map]
  refine wpAny_bind (wpAny_setField hi rfl (by simp) ?_)
  have g1 := Heap.get?_update_self (Obj.mapFields (·.setIfInBounds 0 (Value.int (slotAt w S (i + 1) : Nat) 0))) hi rfl
  refine wpAny_bind (wpAny_setField g1 rfl (by simp) ?_)
  have g2 := Heap.get?_update_self (Obj.mapFields (·.setIfInBounds 1 (Value.int ((i : Int) + 1) 0))) g1 rfl
  refine wpAny_pure ⟨_, rfl, wpAny_pure (h _ ((Heap.SameBut.update s.heap it _).trans (Heap.SameBut.update _ it _)) ?_)⟩
  exact g2
theorem end_set {a it : Addr} {S : Int → Bool} {ts : Nat → Tok} {ep : Nat} {Q : Option Value → Shared → Prop} (hh : A.handled = none) (ha : s.heap.get? a = some (canonObj w S ts ep)) (hi : s.heap.get? it = some (siObj w a S ep (kbS S).length))
    (hx : (ordOf w a S ts ep)[(kbS S).length]? = none) (h : ∀ h', Heap.ExtBut it s.heap h' → Q none { s with heap := h' }) : wpAny (model prog w) A (pyNext (.ref it)) Q E s := by
  have hT : s.TypeIs (.ref it) "set_iterator" := ⟨_, hi, rfl⟩
  unfold pyNext
  refine wpAny_bind (wpAny_attempt (wpAny_callSpecial?_slot (name := Str.ofString "__next__") hT slot_si_next
    (wpAny_call_entry slot_si_next hT entry_si_next ?_ (args_si_next _))))
  unfold Builtin.«set_iterator.__next__»
  refine wpAny_bind (wpAny_pure ?_)
  try dsimp only
  refine wpAny_bind (wpAny_fieldsOf hi rfl ?_)
  try dsimp only
  refine wpAny_bind (wpAny_setEntries_of ha rfl (seenFits S ts _) ?_)
  have e1 : (((ents (kbS S) ts).size : Int) != ((kbS S).length : Int)) = false := by rw [ents_size]; simp
  dsimp only [rawInt]
  rw [e1]
  simp only [Bool.false_eq_true, if_false]
  refine wpAny_bind ?_
  simp only [Int.toNat_natCast]
  refine setNext_wp ha (Nat.le_refl _) ?_
  rw [hx]
  dsimp only [Option.map]
  refine wpAny_bind (wpAny_setField hi rfl (by simp) ?_)
  first
  | show wpAny _ _ (newExc (.type "StopIteration") [] >>= _) _ _ _
  | (refine wpAny_bind ?_; show wpAny _ _ (newExc (.type "StopIteration") [] >>= _) _ _ _)
  refine wpAny_bind ?_
  simp only [newExc, newTuple]
  refine wpAny_bind (wpAny_newObj_type ?_ (by size_fits))
  refine wpAny_bind (m := firstArgMember _ _) (wpAny_of_eq (a := Value.none) (by first | rfl | (simp only [firstArgMember]; rfl)) ?_)
  refine wpAny_newObj_type ?_ (by size_fits)
  simp only [raiseNew]
  refine wpAny_bind (wpAny_handled ?_)
  first | rw [show A.in1.handled = none from hh] | rw [hh]
  refine wpAny_bind (wpAny_pure (wpAny_throw ?_))
  refine wpAny_bind (wpAny_isInstance (T := "StopIteration") (b := true) ⟨_, Heap.get?_push_size _ rfl, rfl⟩ isSubtype_stop ?_)
  exact wpAny_pure (h _ (((Heap.SameBut.update s.heap it _).extBut.push _).push _))
end
end Mine
set_option Elab.async false
set_option linter.unusedVariables false
set_option maxRecDepth 100000
namespace Mine
open PySem PySem.W PySem.Calls PySem.Spec PyProof.Rows
theorem erase_perm {α : Type} : ∀ {l : List α} {i : Nat} (h : i < l.length), (l[i] :: l.eraseIdx i).Perm l
  | a :: l, 0, _ => .refl _
  | a :: l, i + 1, h => by
    simp only [List.getElem_cons_succ, List.eraseIdx_cons_succ]
    exact (List.Perm.swap a _ _).trans ((erase_perm (l := l) (i := i) (by simpa using h)).cons a)
theorem pick_go {α : Type} (next : Nat → Nat) : ∀ (fuel k : Nat) (left : List α) (out : Array α), left.length ≤ fuel → (pickOrder.go next fuel k left out).toList.Perm (out.toList ++ left)
  | 0, k, left, out, h => by
    have : left = [] := List.eq_nil_of_length_eq_zero (by omega)
    subst this; unfold pickOrder.go; simp
  | fuel + 1, k, left, out, h => by
    unfold pickOrder.go
    by_cases h0 : left.length = 0
    · have : left = [] := List.eq_nil_of_length_eq_zero h0
      subst this; simp
    · have hlt : next k % left.length < left.length := Nat.mod_lt _ (by omega)
      rw [List.getElem?_eq_getElem hlt]
      dsimp only
      refine (pick_go next fuel (k + 1) _ _ (by rw [List.length_eraseIdx_of_lt hlt]; omega)).trans ?_
      rw [Array.toList_push, List.append_assoc]
      refine List.Perm.append_left _ ?_
      rw [List.singleton_append]
      exact erase_perm hlt
theorem pick_perm {α : Type} (next : Nat → Nat) (xs : Array α) : (pickOrder next xs).toList.Perm xs.toList := by
  unfold pickOrder
  refine (pick_go next xs.size 0 xs.toList #[] (by simp)).trans ?_
  simp
section
variable {prog : Program} {w : World} {f : Fm} {ε : En} {H : Hp} {s s' : Shared} {m : Str → Option Value} {nx nx' : Led} {A : Around} {E : Value → Shared → Prop}
theorem ord_perm (a : Addr) (S : Int → Bool) (ts : Nat → Tok) (ep : Nat) : (ordOf w a S ts ep).toList.Perm (ents (kbS S) ts).toList := by
  unfold ordOf
  split
  · exact pick_perm _ _
  · exact .refl _
theorem ord_size (a : Addr) (S : Int → Bool) (ts : Nat → Tok) (ep : Nat) : (ordOf w a S ts ep).size = (kbS S).length := by
  have := (ord_perm (w := w) a S ts ep).length_eq
  rw [Array.length_toList, Array.length_toList, ents_size] at this
  exact this
theorem slot_pyIter_si {it a : Addr} {S : Int → Bool} {ep i : Nat} {Q : Value → Shared → Prop} (hi : s.heap.get? it = some (siObj w a S ep i)) (h : Q (.ref it) s) : wpAny (model prog w) A (pyIter (.ref it)) Q E s := by
  have hT : s.TypeIs (.ref it) "set_iterator" := ⟨_, hi, rfl⟩
  refine wpAny_pyIter_slot hT slot_si_iter (wpAny_call_entry slot_si_iter hT entry_si_iter ?_ (args_si_iter _))
  show wpAny _ _ (ret (.ref it)) _ _ s
  exact wpAny_pure ⟨_, rfl, "set_iterator", _, hT, slot_si_next.lookup, h⟩
theorem walks_set (hh : A.handled = none) (I a : Addr) (hne : a ≠ I) (S : Int → Bool) (ts : Nat → Tok) (ep : Nat) :
    Walks prog w A I [I, a] [I] (kbS S).length (fun i v => ∃ e, (ordOf w a S ts ep)[i]? = some e ∧ v = e.2) (fun i h => h.get? I = some (siObj w a S ep i) ∧ h.get? a = some (canonObj w S ts ep)) where
  sub := fun b hb => by simp at hb; simp [hb]
  frame := fun _ _ _ st hk => ⟨hk I (by simp) _ st.1, hk a (by simp) _ st.2⟩
  item := fun i s Q E hi st hQ => by
    have hx : (ordOf w a S ts ep)[i]? = some ((ordOf w a S ts ep)[i]'(by rw [ord_size]; exact hi)) := Array.getElem?_eq_getElem (by rw [ord_size]; exact hi)
    refine next_set st.2 st.1 hi hx fun h' hs' ho' => ?_
    exact hQ _ h' s.toks ⟨_, hx, rfl⟩ ⟨ho', (hs'.2 a hne).trans st.2⟩ fun b o hb e => (hs'.2 b (fun z => hb (by simp [z]))).trans e
  done := fun s Q E st hQ => by
    refine end_set hh st.2 st.1 (Array.getElem?_eq_none (by rw [ord_size]; exact Nat.le_refl _)) fun h' he' => hQ h' s.toks fun b o hb e => he' b o (fun z => hb (by simp [z])) e
  self := fun _ _ _ _ st hQ => slot_pyIter_si st.1 hQ
theorem src_set (a : Addr) (S : Int → Bool) (ts : Nat → Tok) (ep : Nat) : KdlSrc prog w "set" a a (kbS S).length (fun i v => ∃ e, (ordOf w a S ts ep)[i]? = some e ∧ v = e.2) (fun h => h.get? a = some (canonObj w S ts ep)) where
  type := fun _ hm => ⟨_, hm, rfl⟩
  there := fun _ hm => ⟨Heap.lt_size hm, Heap.lt_size hm⟩
  keep := fun _ _ hm hk => hk a (.inl rfl) _ hm
  notList := by decide
  notTuple := by decide
  hint := fun _ _ _ _ hm hq => hint_set ⟨_, hm, rfl⟩ hq
  iter := fun _ s hh hm => ⟨_, _, (fun _ _ hq => pyIter_set hm hq), walks_set hh _ a (Nat.ne_of_lt (Heap.lt_size hm)) S ts ep, ⟨Heap.get?_push_size _ rfl, Heap.get?_push_of_some _ hm⟩⟩
theorem mem_kbS_iff {S : Int → Bool} (hlow : ∀ k, S k = true → 0 ≤ k ∧ k < 5) (k : Int) : k ∈ (kbS S).map (fun j : Nat => (j : Int)) ↔ S k = true := by
  constructor
  · intro h
    obtain ⟨j, hj, rfl⟩ := List.mem_map.mp h
    exact (mem_kbS hj).1
  · intro h
    obtain ⟨h0, h5⟩ := hlow k h
    obtain ⟨j, rfl⟩ := Int.eq_ofNat_of_zero_le h0
    exact List.mem_map.mpr ⟨j, kbS_mem (by omega) h, rfl⟩
/-- sorted(set): the members, each once -/
theorem cv_sortedS {x : Addr} {T : Int → Bool} {Q : AV → Hp → Prop} (h1 : H x = some (.set true T)) (q : ∀ y ns, H y = none → ns.length ≤ 5 → (∀ k, k ∈ ns ↔ T k = true) → Q (.ref y) (H.put y (.list (avi ns)))) :
    CV prog w f (.builtin "sorted") [.ref x] ε H Q := fun o s m nx vs S hv => by
  obtain ⟨_, rfl, hx⟩ := hv.is1
  focus
    obtain rfl := hx.ofRef
    obtain ⟨ob, hm, hs, hS⟩ := S.set h1
    obtain ⟨ts, ep, rfl⟩ := hs.canon rfl
    have hc : (kbS T).length ≤ 5 := card_le T
    refine kdu_sorted (src_set x T ts ep) o.hh S.F S.N (S.mem hm) (by rw [sizeLine_eq]; omega) fun D h' tk vs F' N' l1 hl hP => ?_
    have hall : ∀ e ∈ (ordOf w x T ts ep).toList, ∃ k t, e.2 = .int k t ∧ T k = true := fun e he => by
      have := (ord_perm (w := w) x T ts ep).mem_iff.mp he
      unfold ents at this
      simp only [List.mem_map] at this
      obtain ⟨j, hj, rfl⟩ := this
      exact ⟨j, _, rfl, (mem_kbS hj).1⟩
    have key : ∀ (l : List (Int × Value)), (∀ e ∈ l, ∃ k t, e.2 = .int k t ∧ T k = true) → IntsAre (l.map (·.2)) (l.map fun e => match e.2 with | .int k _ => k | _ => 0) := by
      intro l
      induction l with
      | nil => intro _; exact .nil
      | cons e l ih =>
        intro h
        obtain ⟨k, t, e1, _⟩ := h e (.head _)
        rw [List.map_cons, List.map_cons, e1]
        exact .cons _ t (ih fun e he => h e (.tail _ he))
    have ev : vs = (ordOf w x T ts ep).toList.map (·.2) := by
      apply List.ext_getElem?
      intro j
      by_cases hj : j < vs.length
      · obtain ⟨e, e1, e2⟩ := hP j vs[j] (List.getElem?_eq_getElem hj)
        rw [List.getElem?_eq_getElem hj, List.getElem?_map, Array.getElem?_toList, e1, e2]; rfl
      · rw [List.getElem?_eq_none (by omega), List.getElem?_eq_none (by rw [List.length_map, Array.length_toList, ord_size]; omega)]
    have hi := key _ hall
    rw [← ev] at hi
    have hlen := hi.length
    refine call_sort F' N' l1 hi (by omega) fun vs' ns' c h'' F'' N'' hi' hp => ?_
    have S' := S.new (s' := { s with heap := h'', toks := tk }) F'' N'' rfl l1 (.list (n := c) (ints_VAll hi'))
    refine ⟨⟨h'', _, rfl⟩, _, .ref D, _, S', .cons _ _, .ref D, q D ns' (S.fresh l1) (by have := hp.length_eq; omega) fun k => ?_⟩
    rw [hp.mem_iff, ← mem_kbS_iff hs.low]
    have e2 : ((ordOf w x T ts ep).toList.map fun e => match e.2 with | .int k _ => k | _ => 0).Perm ((kbS T).map fun j : Nat => (j : Int)) := by
      refine ((ord_perm (w := w) x T ts ep).map _).trans ?_
      unfold ents
      rw [List.map_map]
      exact .refl _
    exact e2.mem_iff
end
end Mine
set_option Elab.async false
set_option linter.unusedVariables false
set_option maxRecDepth 100000
namespace Mine
open PySem PySem.W PySem.Calls PySem.Spec PyProof.Rows
theorem slot_rv_next : Slot "reversed" "__next__" "reversed.__next__" :=
  .of (owner := "reversed") (n := "__next__") (by rw [typeLookup_type, builtinLookup_eq_fast]; kernel_rfl) (by decide +kernel) (by decide +kernel) (by decide +kernel)
    (by first | exact .inl (by decide +kernel) | exact .inr (by decide +kernel)) (by rw [isSubtype_type]; kernel_rfl)
theorem entry_rv_next : entryFor table "reversed.__next__" = some Builtin.«reversed.__next__» := entryFor_of_tree (by kernel_rfl)
theorem owner_rv : Manifest.owners.lookup (String.ofList ['d', 'e', 's', 'r', 'e', 'v', 'e', 'r'].reverse) = some Manifest.sig_reversed := by kernel_rfl
theorem args_rv_next (a : Value) : argsOk "reversed.__next__" ⟨[a], []⟩ := by
  unfold argsOk; rw [signature?_of (id := "reversed.__next__") (n := ['_', '_', 't', 'x', 'e', 'n', '_', '_']) (o := ['d', 'e', 's', 'r', 'e', 'v', 'e', 'r']) (by kernel_rfl) owner_rv]; kernel_rfl
theorem slot_rv_iter : Slot "reversed" "__iter__" "reversed.__iter__" :=
  .of (owner := "reversed") (n := "__iter__") (by rw [typeLookup_type, builtinLookup_eq_fast]; kernel_rfl) (by decide +kernel) (by decide +kernel) (by decide +kernel)
    (by first | exact .inl (by decide +kernel) | exact .inr (by decide +kernel)) (by rw [isSubtype_type]; kernel_rfl)
theorem args_rv_iter (a : Value) : argsOk "reversed.__iter__" ⟨[a], []⟩ := by
  unfold argsOk; rw [signature?_of (id := "reversed.__iter__") (n := ['_', '_', 'r', 'e', 't', 'i', '_', '_']) (o := ['d', 'e', 's', 'r', 'e', 'v', 'e', 'r']) (by kernel_rfl) owner_rv]; kernel_rfl
theorem entry_rv_iter : entryFor table "reversed.__iter__" = some Builtin.«dict_keyiterator.__iter__» :=
  entryFor_alias (id' := "dict_keyiterator.__iter__") (by kernel_rfl) (by first | rfl | decide +kernel | (unfold String.splitOn; simp +decide [String.splitOnAux])) (by decide +kernel) (by kernel_rfl)
theorem slot_rv_hint : Slot "reversed" "__length_hint__" "reversed.__length_hint__" :=
  .of (owner := "reversed") (n := "__length_hint__") (by rw [typeLookup_type, builtinLookup_eq_fast]; kernel_rfl) (by decide +kernel) (by decide +kernel) (by decide +kernel)
    (by first | exact .inl (by decide +kernel) | exact .inr (by decide +kernel)) (by rw [isSubtype_type]; kernel_rfl)
theorem entry_rv_hint : entryFor table "reversed.__length_hint__" = some Builtin.«reversed.__length_hint__» := entryFor_of_tree (by kernel_rfl)
theorem args_rv_hint (a : Value) : argsOk "reversed.__length_hint__" ⟨[a], []⟩ := by
  unfold argsOk; rw [signature?_of (id := "reversed.__length_hint__") (n := ['_', '_', 't', 'n', 'i', 'h', '_', 'h', 't', 'g', 'n', 'e', 'l', '_', '_']) (o := ['d', 'e', 's', 'r', 'e', 'v', 'e', 'r']) (by kernel_rfl) owner_rv]; kernel_rfl
theorem no_len_rv : typeLookup (.type "reversed") "__len__" = pure none := by rw [typeLookup_type, builtinLookup_eq_fast]; kernel_rfl
theorem no_rev_tuple : typeLookup (.type "tuple") "__reversed__" = pure none := by rw [typeLookup_type, builtinLookup_eq_fast]; kernel_rfl
theorem no_len_lri : typeLookup (.type "list_reverseiterator") "__len__" = pure none := by rw [typeLookup_type, builtinLookup_eq_fast]; kernel_rfl
theorem hint_lri : typeLookup (.type "list_reverseiterator") "__length_hint__" = pure (some (.builtin "list_reverseiterator.__length_hint__")) := by rw [typeLookup_type, builtinLookup_eq_fast]; kernel_rfl
noncomputable abbrev rvObj (t : Addr) (i : Int) : Obj := { cls := .type "reversed", data := .fields #[.ref t, rawInt i] }
section
variable {prog : Program} {w : World} {f : Fm} {ε : En} {H : Hp} {s s' : Shared} {m : Str → Option Value} {nx nx' : Led} {A : Around} {E : Value → Shared → Prop}
theorem next_rv {it t : Addr} {i : Nat} {items : Array Value} {x : Value} {Q : Option Value → Shared → Prop} (hi : s.heap.get? it = some (rvObj t i)) (ht : IsTup s.heap t items) (hz : items.size < 1000000) (hx : items[i]? = some x)
    (h : ∀ h' tk, Heap.SameBut it s.heap h' → h'.get? it = some (rvObj t ((i : Int) - 1)) → Q (some x) { s with heap := h', toks := tk }) : wpAny (model prog w) A (pyNext (.ref it)) Q E s := by
  have hT : s.TypeIs (.ref it) "reversed" := ⟨_, hi, rfl⟩
  have hlt : i < items.size := (Array.getElem?_eq_some_iff.mp hx).1
  unfold pyNext
  refine wpAny_bind (wpAny_attempt (wpAny_callSpecial?_slot (name := Str.ofString "__next__") hT slot_rv_next
    (wpAny_call_entry slot_rv_next hT entry_rv_next ?_ (args_rv_next _))))
  unfold Builtin.«reversed.__next__»
  refine wpAny_bind (wpAny_of_eq (a := (Value.ref it, [])) rfl ?_)
  try dsimp only
  refine wpAny_bind (wpAny_field hi rfl (x := .ref t) rfl ?_)
  refine wpAny_bind (wpAny_field hi rfl (x := rawInt (i : Nat)) rfl ?_)
  show wpAny _ _ (if ((i : Nat) : Int) < 0 then _ else _) _ _ s
  rw [if_neg (by omega)]
  refine wpAny_bind (wpAny_specialOf ht.typeIs PyProof.Rows.slot_tuple_getitem.lookup ?_)
  dsimp only [Option.isNone]
  simp only [Bool.false_eq_true, if_false]
  refine wpAny_bind (wpAny_mkInt ?_)
  refine wpAny_bind (wpAny_attempt ?_)
  refine PyProof.Rows.getItem_tuple (s := { s with toks := s.toks + 1 }) (k := (i : Int)) (j := i) (x := x) ht (by omega) (by omega) (seqIndex_nat i _ hlt) hx ?_
  refine wpAny_bind (wpAny_field (s := { s with toks := s.toks + 1 }) hi rfl (x := rawInt (i : Nat)) rfl ?_)
  refine wpAny_bind (wpAny_setField (s := { s with toks := s.toks + 1 }) hi rfl (by simp) ?_)
  refine wpAny_pure ⟨_, rfl, wpAny_pure (h _ _ (Heap.SameBut.update s.heap it _) ?_)⟩
  exact Heap.get?_update_self (Obj.mapFields (·.setIfInBounds 1 (rawInt ((i : Int) - 1)))) hi rfl
theorem end_rv {it t : Addr} {Q : Option Value → Shared → Prop} (hh : A.handled = none) (hi : s.heap.get? it = some (rvObj t (-1))) (h : ∀ h', Heap.ExtBut it s.heap h' → Q none { s with heap := h' }) : wpAny (model prog w) A (pyNext (.ref it)) Q E s := by
  have hT : s.TypeIs (.ref it) "reversed" := ⟨_, hi, rfl⟩
  unfold pyNext
  refine wpAny_bind (wpAny_attempt (wpAny_callSpecial?_slot (name := Str.ofString "__next__") hT slot_rv_next
    (wpAny_call_entry slot_rv_next hT entry_rv_next ?_ (args_rv_next _))))
  unfold Builtin.«reversed.__next__»
  refine wpAny_bind (wpAny_of_eq (a := (Value.ref it, [])) rfl ?_)
  try dsimp only
  refine wpAny_bind (wpAny_field hi rfl (x := .ref t) rfl ?_)
  refine wpAny_bind (wpAny_field hi rfl (x := rawInt (-1)) rfl ?_)
  show wpAny _ _ (if (-1 : Int) < 0 then _ else _) _ _ s
  rw [if_pos (by decide)]
  refine wpAny_bind (wpAny_rule ?_)
  refine wpAny_bind ?_
  show wpAny _ _ (setField (.ref it) 1 (rawInt (-1)) >>= fun _ => setField (.ref it) 0 .none) _ _ _
  refine wpAny_bind (wpAny_setField hi rfl (by simp) ?_)
  have g1 := Heap.get?_update_self (Obj.mapFields (·.setIfInBounds 1 (rawInt (-1)))) hi rfl
  refine wpAny_setField g1 rfl (by simp) ?_
  refine wpAny_bind ?_
  unfold Builtin.SmallTypes.stopIteration
  refine wpAny_bind ?_
  simp only [newExc, newTuple]
  refine wpAny_bind (wpAny_newObj_type ?_ (by size_fits))
  refine wpAny_bind (m := firstArgMember _ _) (wpAny_of_eq (a := Value.none) (by first | rfl | (simp only [firstArgMember]; rfl)) ?_)
  refine wpAny_newObj_type ?_ (by size_fits)
  simp only [raiseNew]
  refine wpAny_bind (wpAny_handled ?_)
  first | rw [show A.in1.handled = none from hh] | rw [hh]
  refine wpAny_bind (wpAny_pure (wpAny_throw ?_))
  refine wpAny_bind (wpAny_isInstance (T := "StopIteration") (b := true) ⟨_, Heap.get?_push_size _ rfl, rfl⟩ isSubtype_stop ?_)
  exact wpAny_pure (h _ ((((Heap.SameBut.update s.heap it _).trans (Heap.SameBut.update _ it _)).extBut.push _).push _))
theorem hint_rv {r t : Addr} {i : Int} {items : Array Value} {Q : Bool → Shared → Prop} (hi : s.heap.get? r = some (rvObj t ((items.size : Int) - 1))) (ht : IsTup s.heap t items) (hz : items.size < 1000000) (h : ∀ b tk, Q b { s with toks := tk }) :
    wpAny (model prog w) A (Builtin.List.listLengthHint (.ref r)) Q E s := by
  have hT : s.TypeIs (.ref r) "reversed" := ⟨_, hi, rfl⟩
  unfold Builtin.List.listLengthHint
  refine wpAny_bind (wpAny_specialOf hT no_len_rv ?_)
  try dsimp only
  refine wpAny_ite_split (fun hab => absurd hab (by decide)) (fun _ => ?_)
  refine wpAny_ite_split (fun hab => absurd hab (by decide)) (fun _ => ?_)
  refine wpAny_bind (wpAny_specialOf hT slot_rv_hint.lookup ?_)
  generalize hid : ("reversed.__length_hint__" : String) = id0
  wp_delta
  rw [show splitId id0 = some ("reversed", "__length_hint__") from by subst hid; decide +kernel]
  subst hid
  refine wpAny_bind (wpAny_isInstance (T := "reversed") (b := true) hT (by rw [isSubtype_type]; kernel_rfl) ?_)
  refine wpAny_ite_split (fun hab => absurd hab (by decide)) (fun _ => ?_)
  refine wpAny_ite_split (fun hab => absurd hab (by decide +kernel)) (fun _ => ?_)
  refine wpAny_bind (wpAny_rule ?_)
  refine wpAny_bind (wpAny_of_eq (slot_rv_hint.bind _) ?_)
  try dsimp only
  refine wpAny_bind (wpAny_attempt (wpAny_call_entry slot_rv_hint hT entry_rv_hint ?_ (args_rv_hint _)))
  unfold Builtin.«reversed.__length_hint__»
  refine wpAny_bind (wpAny_of_eq (a := Value.ref r) (by rfl) ?_)
  refine wpAny_bind (wpAny_field hi rfl (x := .ref t) rfl ?_)
  rw [show (Value.ref t == Value.none) = false from rfl]
  simp only [Bool.false_eq_true, if_false]
  refine wpAny_bind (len_tuple ht (by omega) ?_)
  refine wpAny_bind (wpAny_of_eq (a := some (items.size : Int)) (by rfl) ?_)
  try dsimp only
  refine wpAny_bind (wpAny_field hi rfl (x := rawInt ((items.size : Int) - 1)) rfl ?_)
  dsimp only [rawInt]
  rw [if_neg (by omega)]
  unfold retInt
  refine wpAny_bind (wpAny_mkInt (wpAny_pure ⟨_, rfl, ?_⟩))
  try dsimp only
  refine wpAny_bind (wpAny_of_eq (a := some ((items.size : Int) - 1 + 1)) (by rfl) ?_)
  try dsimp only
  have e1 : Builtin.List.listFitsIndex ((items.size : Int) - 1 + 1) = true := by unfold Builtin.List.listFitsIndex; simp; omega
  rw [e1]
  simp only [Bool.not_true, Bool.false_eq_true, if_false]
  rw [if_neg (by omega)]
  have e2 : Builtin.List.listTooLong ((items.size : Int) - 1 + 1).toNat = false := by unfold Builtin.List.listTooLong; rw [decide_eq_false]; rw [sizeLine_eq]; omega
  rw [e2]
  simp only [Bool.false_eq_true, if_false]
  exact wpAny_pure (h _ _)
end
end Mine
set_option Elab.async false
set_option linter.unusedVariables false
set_option maxRecDepth 100000
namespace Mine
open PySem PySem.W PySem.Calls PySem.Spec PyProof.Rows
theorem slot_rv_init : Slot "reversed" "__init__" "object.__init__" :=
  .of (owner := "object") (n := "__init__") (by rw [typeLookup_type, builtinLookup_eq_fast]; kernel_rfl) (by decide +kernel) (by decide +kernel) (by decide +kernel)
    (by first | exact .inl (by decide +kernel) | exact .inr (by decide +kernel)) (by rw [isSubtype_type]; kernel_rfl)
theorem called_reversed : TypeCalled "reversed" "reversed.__new__" "object.__init__" :=
  ⟨by decide +kernel, by decide +kernel, ⟨_, _, PySem.F.mro_reversed⟩, madeBy_type PySem.F.mro_reversed PySem.F.lookup_reversed_new (by decide +kernel), by decide +kernel, by rw [isSubtype_type]; kernel_rfl, slot_rv_init⟩
theorem sub_tuple_dict : isSubtype (.type "tuple") (.type "dict") = pure false := by rw [isSubtype_type]; kernel_rfl
section
variable {prog : Program} {w : World} {f : Fm} {ε : En} {H : Hp} {s s' : Shared} {m : Str → Option Value} {nx nx' : Led} {A : Around} {E : Value → Shared → Prop}
theorem new_rv (t : Addr) (items : Array Value) (hz : items.size < 1000000) : MeetsIn prog w (Builtin.«reversed.__new__» ⟨[.type "reversed", .ref t], []⟩) (fun _ R s => IsTup s.heap t items ∧
    ∀ tk, R (.ok (.ret (.ref s.heap.objs.size))) { s with heap := s.heap.push (rvObj t ((items.size : Int) - 1)), toks := tk }) :=
  .of_wp fun A R s ⟨ht, h⟩ => by
    unfold Builtin.«reversed.__new__»
    refine wpAny_bind (wpAny_of_eq (newClass_reversed _) ?_)
    try dsimp only
    refine wpAny_bind (wpAny_of_eq (a := ()) (by first | rfl | kernel_rfl) ?_)
    refine wpAny_bind (wpAny_of_eq (a := ()) (by first | rfl | kernel_rfl) ?_)
    try dsimp only
    refine wpAny_bind (wpAny_specialOf ht.typeIs no_rev_tuple ?_)
    try dsimp only
    refine wpAny_bind ?_
    wp_delta
    refine wpAny_bind (wpAny_isInstance (T := "tuple") (b := false) ht.typeIs sub_tuple_dict ?_)
    refine wpAny_ite_split (fun hab => absurd hab (by decide)) (fun _ => ?_)
    refine wpAny_bind (wpAny_specialOf ht.typeIs PyProof.Rows.slot_tuple_getitem.lookup ?_)
    try dsimp only
    refine wpAny_ite_split (fun _ => ?_) (fun hab => absurd (by decide +kernel) hab)
    refine wpAny_pure ?_
    refine wpAny_ite_split (fun hab => absurd hab (by decide)) (fun _ => ?_)
    refine wpAny_bind (len_tuple ht (by omega) ?_)
    refine wpAny_bind (wpAny_of_eq (a := some (items.size : Int)) (by rfl) ?_)
    try dsimp only
    refine wpAny_bind ?_
    unfold Builtin.SmallTypes.newRecord
    refine wpAny_newObj_type (wpAny_pure ?_)
    exact ⟨_, rfl, h _⟩
theorem rv_of_tup {l : List AV} {Q : AV → Hp → Prop} (hz : l.length < 1000000) (q : ∀ y, H y = none → Q (.ref y) (H.put y (.revT l))) : CV prog w f (.type "reversed") [.tup l] ε H Q := fun o s m nx vs S hv => by
  obtain ⟨_, rfl, hx⟩ := hv.is1
  focus
    obtain ⟨t, ws, n, rfl, hm, va⟩ := hx.ofTup
    focus
      have e := va.length
      have lt : ∀ p ∈ nx, p.1 < s.heap.objs.size := fun p hp => Heap.lt_size (S.N p hp).1
      refine callType_newIn called_reversed (by decide) (PySem.F.typeCall_reversed_1 _) (PySem.F.newCall_reversed_1 _) (fun obj => PySem.F.args_object_init_2 obj _) PySem.F.entry_reversed_new (new_rv t ws.toArray (by simp; omega)) ⟨⟨_, S.mem hm, rfl, _, rfl⟩, fun tk => ?_⟩
      refine ⟨⟨_, Heap.get?_push_size _ rfl, rfl⟩, ?_⟩
      have e2 : ((ws.toArray.size : Nat) : Int) - 1 = (ws.length : Int) - 1 := by simp
      rw [e2]
      refine ⟨⟨_, _, rfl⟩, _, .ref _, _, S.new (s' := { s with heap := s.heap.push (rvObj t ((ws.length : Int) - 1)), toks := tk }) (S.F.push _) (S.N.push S.F _) rfl lt (.revT (.tail _ hm) (va.ext (.cons _ _))), .cons _ _, .ref _, q _ (S.fresh lt)⟩
theorem rv_of_list {x : Addr} {l : List AV} {Q : AV → Hp → Prop} (h1 : H x = some (.list l)) (q : ∀ y, H y = none → Q (.ref y) (H.put y (.opq (revObj x ((l.length : Int) - 1))))) : CV prog w f (.type "reversed") [.ref x] ε H Q := fun o s m nx vs S hv => by
  obtain ⟨_, rfl, hx⟩ := hv.is1
  focus
    obtain rfl := hx.ofRef
    obtain ⟨ob, hm, ho⟩ := S.obj _ _ h1
    obtain ⟨ws, n, rfl, va⟩ := ho.ofList
    focus
      refine krv_reversed S.F S.N (vs := ws) ⟨_, S.mem hm, rfl, _, rfl⟩ fun D h' F' N' l1 => ?_
      rw [va.length] at N'
      exact ⟨⟨h', _, rfl⟩, _, .ref D, _, S.new (s' := { s with heap := h' }) F' N' rfl l1 (.opq (by rintro ⟨vs, n, e⟩; simp [revObj] at e) rfl), .cons _ _, .ref D, q D (S.fresh l1)⟩

/-- an iterator that is its own iterator -/
structure RvSrc (prog : Program) (w : World) (T : String) (r d : Addr) (n : Nat) (P : Nat → Value → Prop) (St : Nat → Heap → Prop) : Prop where
  type : ∀ s : Shared, St 0 s.heap → s.TypeIs (.ref r) T
  notList : (Value.type T == Value.type "list") = false
  notTuple : (Value.type T == Value.type "tuple") = false
  hint : ∀ (A : Around) (E : Value → Shared → Prop) (s : Shared) (Q : Bool → Shared → Prop), St 0 s.heap → (∀ b tk, Q b { s with toks := tk }) → wpAny (model prog w) A (Builtin.List.listLengthHint (.ref r)) Q E s
  walks : ∀ (A : Around), A.handled = none → Walks prog w A r [r, d] [r] n P St
noncomputable def shiftP (acc : Array Value) (P : Nat → Value → Prop) (j : Nat) (v : Value) : Prop := (j < acc.size → acc[j]? = some v) ∧ (acc.size ≤ j → P (j - acc.size) v)
theorem walks_shift {I : Addr} {fp wr : List Addr} {n : Nat} {P : Nat → Value → Prop} {St : Nat → Heap → Prop} (W : Walks prog w A I fp wr n P St) (acc : Array Value) :
    Walks prog w A I fp wr (acc.size + n) (shiftP acc P) (fun i h => acc.size ≤ i ∧ St (i - acc.size) h) where
  sub := W.sub
  frame := fun i h h' st hk => ⟨st.1, W.frame _ _ _ st.2 hk⟩
  item := fun i s Q E hi st hQ => W.item (i - acc.size) s Q E (by have := st.1; omega) st.2 fun v h' tk hP st' hk => hQ v h' tk ⟨fun h => by have := st.1; omega, fun _ => hP⟩ ⟨by have := st.1; omega, (show i + 1 - acc.size = i - acc.size + 1 by have := st.1; omega) ▸ st'⟩ hk
  done := fun s Q E st hQ => W.done s Q E ((show acc.size + n - acc.size = n by omega) ▸ st.2) hQ
  self := fun i s Q E st hQ => W.self _ s Q E st.2 hQ
theorem rv_extend {T : String} {r d : Addr} {n : Nat} {P : Nat → Value → Prop} {St : Nat → Heap → Prop} {R : Result → Shared → Prop} (K : RvSrc prog w T r d n P St) (hh : A.handled = none) (hok : St 0 s.heap) (S : Addr) (hSr : S ≠ r) (hSd : S ≠ d) (res : Value) (acc : Array Value) (c₀ : Nat)
    (hS : s.heap.get? S = some { cls := .type "list", data := .seq acc c₀ })
    (hR : ∀ h' tk acc' c', (∀ b o, b ≠ S → b ≠ r → s.heap.get? b = some o → h'.get? b = some o) → h'.get? S = some { cls := .type "list", dict := none, data := .seq acc' c', slots := #[] } → ItemsOf (shiftP acc P) acc' (acc.size + n) → R (.ok (.ret res)) { s with heap := h', toks := tk }) (hn : acc.size + n < sizeLine) :
    wpAny (model prog w) A.in1 (Builtin.List.listExtendWith (.ref S) (.ref r) res)
      (fun fin s' => match fin with | .done f => R (.ok f) s' | .again c' => c'.quiet = true ∧ codeAny (model prog w) A c' R s') (fun e s' => R (.error e) s') s := by
  have hSf : S ∉ [r, d] := by simp only [List.mem_cons, List.not_mem_nil, or_false, not_or]; exact ⟨hSr, hSd⟩
  have W := K.walks A.in1 hh
  have key : ∀ (h : Heap) (c₁ tk : Nat), St 0 h → (∀ b o, b ≠ S → s.heap.get? b = some o → h.get? b = some o) →
      h.get? S = some { cls := .type "list", data := .seq acc c₁ } → codeAny (model prog w) A (.builtin "list.extend.loop" ⟨[.ref S, .ref r, res], []⟩) R { s with heap := h, toks := tk } := by
    intro h c₁ tk hst hk hS₁
    refine codeAny_extend_loopS (walks_shift W acc).toS (Nat.le_of_lt hn) S hSf res n acc.size _ acc c₁ (by omega) (by omega) ⟨Nat.le_refl _, by rw [Nat.sub_self]; exact hst⟩ hS₁ ⟨rfl, fun j v e => ⟨fun _ => e, fun h => ?_⟩⟩ fun s' acc' c' hm hS' hacc => ?_
    · have := (Array.getElem?_eq_some_iff.mp e).1; omega
    rw [Moved.eq_with hm]
    refine hR s'.heap s'.toks acc' c' (fun b o hb hr e => hm.heap b o (fun hmem => ?_) (hk b o hb e)) hS' hacc
    rcases List.mem_cons.mp hmem with e' | hmem
    · exact hb e'
    · exact hr (List.mem_singleton.mp hmem)
  unfold Builtin.List.listExtendWith
  refine wpAny_bind (wpAny_typeOf (T := T) (K.type s hok) ?_)
  have h1 : Builtin.List.listSameRef (.ref S) (.ref r) = false := by simp [Builtin.List.listSameRef, hSr]
  simp only [h1, K.notList, K.notTuple, Bool.or_false, Bool.false_eq_true, if_false]
  refine wpAny_bind (W.self 0 s _ _ hok ?_)
  refine wpAny_bind (wpAny_holding (K.hint _ _ _ _ hok fun bb tk => ?_))
  refine wpAny_ite_split (fun _ => ?_) (fun _ => wpAny_pure ⟨plainId_quiet PySem.F.plain_extend_loop _, key _ c₀ _ hok (fun b o _ e => e) hS⟩)
  refine wpAny_bind (wpAny_rule ?_)
  refine wpAny_bind ?_
  show wpAny _ _ (updateSeq S (·.push .none) >>= fun _ => updateSeq S (·.pop)) _ _ _
  refine wpAny_bind (wpAny_updateSeq (s := { s with toks := tk }) (hz := by omega) hS rfl ?_)
  have hS₂ := Heap.get?_update_self (Obj.mapSeq (·.push Value.none)) hS rfl
  refine wpAny_updateSeq (hz := by show (acc.push Value.none).size ≤ sizeLine; rw [Array.size_push]; omega) hS₂ rfl ?_
  have hS₃ := Heap.get?_update_self (Obj.mapSeq (·.pop)) hS₂ rfl
  have e3 : (acc.push Value.none).pop = acc := by simp
  refine wpAny_pure ⟨plainId_quiet PySem.F.plain_extend_loop _, key _ _ _ ?_ (fun b o hb e => ?_) (by rw [← e3]; exact hS₃)⟩
  · refine W.frame 0 _ _ hok fun b hb o e => ?_
    have hbS : b ≠ S := fun h => hSf (h ▸ hb)
    exact (Heap.get?_update_other _ _ (Ne.symm hbS)).trans ((Heap.get?_update_other _ _ (Ne.symm hbS)).trans e)
  · exact (Heap.get?_update_other _ _ (Ne.symm hb)).trans ((Heap.get?_update_other _ _ (Ne.symm hb)).trans e)
end
end Mine
set_option Elab.async false
set_option linter.unusedVariables false
set_option maxRecDepth 100000
namespace Mine
open PySem PySem.W PySem.Calls PySem.Spec PyProof.Rows
section
variable {prog : Program} {w : World} {f : Fm} {ε : En} {H : Hp} {s s' : Shared} {m : Str → Option Value} {nx nx' : Led} {A : Around} {E : Value → Shared → Prop}
theorem St.but2 (S : St prog w f s m nx ε H) {I D : Addr} {oI oD o' : Obj} {aI aD aD' : AO} {H₀ : Hp} (hmI : (I, oI) ∈ nx) (hI : H I = some aI) (hmD : (D, oD) ∈ nx) (hD : H₀ D = some aD) (hI0 : H₀ I = none) (hsub : ∀ a o, H₀ a = some o → H a = some o)
    (hs : ∀ b ob, b ≠ D → b ≠ I → s.heap.get? b = some ob → s'.heap.get? b = some ob) (ho' : s'.heap.get? D = some o') (hin : ∀ nx', Ext nx nx' → OIn prog w nx' o' aD') : ∃ nx', St prog w f s' m nx' ε (H₀.put D aD') ∧ Ext nx nx' := by
  have hNI := S.N _ hmI
  have hND := S.N _ hmD
  have ht : ∀ o₂, (I, o₂) ∈ nx → ¬ IsT o₂ := fun o₂ h t => by
    obtain ⟨o₁, h1, h2⟩ := S.obj _ _ hI
    have e1 := (S.N _ h).1; have e2 := (S.N _ h1).1
    dsimp only at e1 e2
    rw [e1] at e2; cases e2
    exact h2.notT t
  have hne : D ≠ I := fun e => by rw [e, hI0] at hD; cases hD
  have ho : ∀ p ∈ f.own, p.1 ≠ I := fun p hp e => by have := (S.own p hp).2; rw [e, hI] at this; cases this
  have S0 := S.weak (ε₂ := ε) (H₂ := H₀) (fun _ _ h => h) hsub
  obtain ⟨nx1, S1, x1, sub1⟩ := S0.but (s' := s) hmI hI0 (ht _ hmI) ho fun b ob _ e => e
  obtain ⟨oL, es, ep, hL, r⟩ := S.F.ns
  have hmD1 : (D, oD) ∈ nx1 := sub1 _ hmD hne
  have notI : ∀ p ∈ nx1.filter (fun p => decide (p.1 ≠ I)), p.1 ≠ I := fun p hp => of_decide_eq_true (List.mem_filter.mp hp).2
  -- the ledger without I
  have S2 : St prog w f s m (nx1.filter fun p => decide (p.1 ≠ I)) ε H₀ := by
    have sub : ∀ p ∈ nx1, p.1 ≠ I → p ∈ nx1.filter (fun p => decide (p.1 ≠ I)) := fun p hp q => List.mem_filter.mpr ⟨hp, decide_eq_true q⟩
    have x : Ext nx1 (nx1.filter fun p => decide (p.1 ≠ I)) := fun a ob hm' t => by
      refine sub _ hm' fun e => ?_
      dsimp only at e
      subst e
      have e1 := (S1.N _ hm').1; have e2 := hNI.1
      dsimp only at e1 e2
      rw [e1] at e2; cases e2
      exact ht _ hmI t
    exact ⟨S1.F, fun p hp => S1.N p (List.mem_filter.mp hp).1, fun y av e => let ⟨v, h1, h2⟩ := S1.loc y av e; ⟨v, h1, h2.ext x⟩, fun b ao e => by
      obtain ⟨ob, h1, h2⟩ := S1.obj b ao e
      exact ⟨ob, sub _ h1 (fun z => by dsimp only at z; rw [z, hI0] at e; cases e), h2.ext x⟩, fun q hq => ⟨sub _ (S1.own q hq).1 (ho q hq), (S1.own q hq).2⟩⟩
  have x2 : Ext nx (nx1.filter fun p => decide (p.1 ≠ I)) := fun a ob hm' t => by
    have h1 := x1 a ob hm' t
    refine List.mem_filter.mpr ⟨h1, decide_eq_true fun e => ?_⟩
    dsimp only at e
    subst e
    exact ht _ hm' t
  have F' : Fr f.h₀ f.L s'.heap m := ⟨⟨oL, es, ep, hs _ _ (Ne.symm hND.2.1) (Ne.symm hNI.2.1) hL, r⟩, fun b ob e => hs _ _ (fun z => by rw [z] at e; rw [hND.2.2] at e; cases e) (fun z => by rw [z] at e; rw [hNI.2.2] at e; cases e) (S.F.keep b ob e), S.F.above⟩
  have hmD2 : (D, oD) ∈ nx1.filter fun p => decide (p.1 ≠ I) := List.mem_filter.mpr ⟨hmD1, decide_eq_true hne⟩
  have N' : News f.h₀ f.L s'.heap (Led.turn (nx1.filter fun p => decide (p.1 ≠ I)) D o') := fun p hp => by
    rcases List.mem_cons.mp hp with rfl | hp
    · exact ⟨ho', hND.2⟩
    · obtain ⟨h1, h2⟩ := List.mem_filter.mp hp
      have h2' : p.1 ≠ D := of_decide_eq_true h2
      exact ⟨hs _ _ h2' (notI p h1) (S2.N _ h1).1, (S2.N _ h1).2⟩
  obtain ⟨S3, x3⟩ := S2.turnN (s' := s') (ao' := aD') hD hmD2 F' N' rfl fun nx' y => hin nx' (x2.trans y)
  exact ⟨_, S3, x2.trans x3⟩

theorem hint_lrev {r l : Addr} {i : Int} {Q : Bool → Shared → Prop} (hT : s.TypeIs (.ref r) "list_reverseiterator") (h : Q false s) : wpAny (model prog w) A (Builtin.List.listLengthHint (.ref r)) Q E s := by
  unfold Builtin.List.listLengthHint
  refine wpAny_bind (wpAny_specialOf hT no_len_lri ?_)
  try dsimp only
  refine wpAny_ite_split (fun hab => absurd hab (by decide)) (fun _ => ?_)
  refine wpAny_ite_split (fun hab => absurd hab (by decide)) (fun _ => ?_)
  refine wpAny_bind (wpAny_specialOf hT hint_lri ?_)
  generalize hid : ("list_reverseiterator.__length_hint__" : String) = id0
  wp_delta
  rw [show splitId id0 = some ("list_reverseiterator", "__length_hint__") from by subst hid; decide +kernel]
  subst hid
  refine wpAny_bind (wpAny_isInstance (T := "list_reverseiterator") (b := true) hT (by rw [isSubtype_type]; kernel_rfl) ?_)
  refine wpAny_ite_split (fun hab => absurd hab (by decide)) (fun _ => ?_)
  refine wpAny_ite_split (fun _ => ?_) (fun hab => absurd (by decide +kernel) hab)
  refine wpAny_ite_split (fun hab => absurd hab (by decide +kernel)) (fun _ => ?_)
  exact wpAny_pure h
theorem src_lrev (r l : Addr) (hne : l ≠ r) (items : Array Value) : RvSrc prog w "list_reverseiterator" r l items.size (fun i v => items[items.size - 1 - i]? = some v) (fun i h => i ≤ items.size ∧ h.IsRevIter r l ((items.size : Int) - 1 - (i : Int)) ∧ h.IsList l items) where
  type := fun s st => st.2.1.typeIs
  notList := by decide
  notTuple := by decide
  hint := fun A E s Q st h => hint_lrev (l := l) (i := 0) st.2.1.typeIs (h false s.toks)
  walks := fun A hh => Walks.listRev hh r l hne items
theorem walks_rv (hh : A.handled = none) (I t : Addr) (hne : t ≠ I) (items : Array Value) (hz : items.size < 1000000) :
    Walks prog w A I [I, t] [I] items.size (fun i v => items[items.size - 1 - i]? = some v) (fun i h => i ≤ items.size ∧ h.get? I = some (rvObj t ((items.size : Int) - 1 - (i : Int))) ∧ IsTup h t items) where
  sub := fun b hb => by simp at hb; simp [hb]
  frame := fun _ _ _ x hk => ⟨x.1, hk I (by simp) _ x.2.1, let ⟨o, ho, r⟩ := x.2.2; ⟨o, hk t (by simp) o ho, r⟩⟩
  item := fun i s Q E hi x hQ => by
    have e : (items.size : Int) - 1 - (i : Int) = ((items.size - 1 - i : Nat) : Int) := by omega
    have hit := x.2.1
    rw [e] at hit
    have hx : items[items.size - 1 - i]? = some (items[items.size - 1 - i]'(by omega)) := Array.getElem?_eq_getElem (by omega)
    refine next_rv hit x.2.2 hz hx fun h' tk hs' hit' => ?_
    have e2 : ((items.size - 1 - i : Nat) : Int) - 1 = (items.size : Int) - 1 - ((i + 1 : Nat) : Int) := by omega
    rw [e2] at hit'
    exact hQ _ h' tk hx ⟨hi, hit', let ⟨o, ho, r⟩ := x.2.2; ⟨o, (hs'.2 t hne).trans ho, r⟩⟩ fun b o hb eo => hs'.extBut b o (fun h => hb (by simp [h])) eo
  done := fun s Q E x hQ => by
    have e : (items.size : Int) - 1 - (items.size : Int) = -1 := by omega
    have hit := x.2.1
    rw [e] at hit
    exact end_rv hh hit fun h' he' => hQ h' s.toks fun b o hb eo => he' b o (fun h => hb (by simp [h])) eo
  self := fun _ s Q E x hQ => by
    have hT : s.TypeIs (.ref I) "reversed" := ⟨_, x.2.1, rfl⟩
    refine wpAny_pyIter_slot hT slot_rv_iter (wpAny_call_entry slot_rv_iter hT entry_rv_iter ?_ (args_rv_iter _))
    show wpAny _ _ (ret (.ref I)) _ _ s
    exact wpAny_pure ⟨_, rfl, "reversed", _, hT, slot_rv_next.lookup, hQ⟩
theorem src_rv (r t : Addr) (hne : t ≠ r) (items : Array Value) (hz : items.size < 1000000) : RvSrc prog w "reversed" r t items.size (fun i v => items[items.size - 1 - i]? = some v) (fun i h => i ≤ items.size ∧ h.get? r = some (rvObj t ((items.size : Int) - 1 - (i : Int))) ∧ IsTup h t items) where
  type := fun s st => ⟨_, st.2.1, rfl⟩
  notList := by decide
  notTuple := by decide
  hint := fun A E s Q st h => hint_rv (t := t) (i := 0) (items := items) (by have := st.2.1; simpa using this) st.2.2 hz h
  walks := fun A hh => walks_rv hh r t hne items hz
theorem items_rev {acc us : List Value} {xs : Array Value} (h : ItemsOf (shiftP acc.toArray (fun i v => us.toArray[us.toArray.size - 1 - i]? = some v)) xs (acc.toArray.size + us.toArray.size)) : xs.toList = acc ++ us.reverse := by
  obtain ⟨h1, h2⟩ := h
  simp only [List.size_toArray] at h1 h2
  apply List.ext_getElem?
  intro j
  by_cases hj : j < xs.size
  · have e1 : xs.toList[j]? = some xs[j] := by rw [Array.getElem?_toList]; exact Array.getElem?_eq_getElem hj
    obtain ⟨a, b⟩ := h2 j xs[j] (Array.getElem?_eq_getElem hj)
    rw [e1]
    by_cases hlt : j < acc.length
    · have a' := a (by simpa using hlt)
      rw [List.getElem?_append_left hlt]
      simpa using a'.symm
    · have b' := b (by simpa using Nat.le_of_not_lt hlt)
      rw [List.getElem?_append_right (Nat.le_of_not_lt hlt), List.getElem?_reverse (by omega)]
      simpa using b'.symm
  · rw [List.getElem?_eq_none (by simpa using Nat.le_of_not_lt hj), List.getElem?_eq_none (by simp; omega)]
/-- extend by a reversed tuple -/
theorem cv_extendR {x y : Addr} {l k : List AV} {H₀ : Hp} {Q : AV → Hp → Prop} (hy : H y = some (.revT k)) (h0 : H₀ y = none) (hsub : ∀ a o, H₀ a = some o → H a = some o) (h1 : H₀ x = some (.list l)) (hl : l.length + k.length < 1000000)
    (q : Q .none (H₀.put x (.list (l ++ k.reverse)))) : CV prog w f (.builtin "list.extend") [.ref x, .ref y] ε H Q := fun o s m nx vs S hv => by
  obtain ⟨_, _, rfl, hx, hy'⟩ := hv.is2
  focus
      obtain rfl := hx.ofRef; obtain rfl := hy'.ofRef
      obtain ⟨ob, hm, ho⟩ := S.obj _ _ (hsub _ _ h1)
      obtain ⟨ob2, hm2, ho2⟩ := S.obj _ _ hy
      obtain ⟨ws, n, rfl, va⟩ := ho.ofList
      focus
        obtain ⟨t, us, c, rfl, hmt, vk⟩ := ho2.ofRevT
        focus
          have e1 := va.length; have e2 := vk.length
          have hxy : x ≠ y := fun e => by rw [e, h0] at h1; cases h1
          have clash : ∀ {a : Addr} {o₁ o₂ : Obj}, (a, o₁) ∈ nx → (a, o₂) ∈ nx → o₁ = o₂ := fun m1 m2 => by
            have q1 := (S.N _ m1).1; have q2 := (S.N _ m2).1
            dsimp only at q1 q2; rw [q1] at q2; exact Option.some.inj q2
          have hty : t ≠ y := fun e => by
            subst e
            have := congrArg Obj.cls (clash hmt hm2)
            simp at this
          have hxt : x ≠ t := fun e => by
            subst e
            have := congrArg Obj.cls (clash hm hmt)
            simp at this
          refine wpAny_call (codeAny_call_builtin PySem.F.slot_list_extend.plain PySem.F.entry_list_extend (PySem.F.slot_list_extend.check _ _ _ _ _ _ _ _ ⟨_, S.mem hm, rfl⟩ (PySem.F.args_list_extend_2 _ _) ?_))
          unfold Builtin.«list.extend»
          refine wpAny_bind (wpAny_of_eq (a := (Value.ref x, Value.ref y)) (by rfl) ?_)
          try dsimp only
          have hz : us.toArray.size < 1000000 := by simp; omega
          have hr : s.heap.get? y = some (rvObj t ((us.toArray.size : Int) - 1 - ((0 : Nat) : Int))) := by
            have := S.mem hm2
            rw [this]; simp
          refine rv_extend (A := f.A) (R := wants (PE prog w f s m nx ε Q) Bot) (src_rv y t hty us.toArray hz) o.hh ⟨Nat.zero_le _, hr, ⟨_, S.mem hmt, rfl, _, rfl⟩⟩ x hxy hxt .none ws.toArray n (S.mem hm) (fun h' tk acc' c' hk hS' hacc => ?_) (by rw [sizeLine_eq]; simp; omega)
          have e3 := items_rev hacc
          obtain ⟨nx', S', x'⟩ := S.but2 (s' := { s with heap := h', toks := tk }) (H₀ := H₀) (aD' := .list (l ++ k.reverse)) hm2 hy hm h1 h0 hsub hk hS' fun nx' z => by
            have : acc' = (ws ++ us.reverse).toArray := by rw [← e3]
            rw [this]
            exact .list ((va.ext z).append (vk.ext z).reverse)
          exact ⟨⟨h', _, rfl⟩, nx', .none, _, S', x', .none, q⟩
/-- list of a reversed list -/
theorem cv_listR {x y : Addr} {l : List AV} {H₀ : Hp} {Q : AV → Hp → Prop} (hy : H y = some (.opq (revObj x ((l.length : Int) - 1)))) (h0 : H₀ y = none) (hsub : ∀ a o, H₀ a = some o → H a = some o) (h1 : H₀ x = some (.list l)) (hl : l.length < 1000000)
    (q : ∀ z, H₀ z = none → Q (.ref z) (H₀.put z (.list l.reverse))) : CV prog w f (.type "list") [.ref y] ε H Q := fun o s m nx vs S hv => by
  obtain ⟨_, rfl, hy'⟩ := hv.is1
  focus
    obtain rfl := hy'.ofRef
    obtain ⟨ob, hm, ho⟩ := S.obj _ _ (hsub _ _ h1)
    obtain ⟨ob2, hm2, ho2⟩ := S.obj _ _ hy
    obtain ⟨rfl, hnt, hnf⟩ := ho2.ofOpq
    obtain ⟨ws, n, rfl, va⟩ := ho.ofList
    focus
      have e1 := va.length
      have hxy : x ≠ y := fun e => by rw [e, h0] at h1; cases h1
      have lt : ∀ p ∈ nx, p.1 < s.heap.objs.size := fun p hp => Heap.lt_size (S.N p hp).1
      refine callType_codes (Q₁ := fun obj s₁ => obj = .ref s.heap.objs.size ∧ s₁ = { s with heap := s.heap.push { cls := .type "list", data := .seq #[] } }) PySem.F.called_list (PySem.F.typeCall_list_1 _) PySem.F.entry_list_init
        (code_list_new _ ⟨rfl, rfl⟩) fun obj s₁ h₁ => ?_
      obtain ⟨rfl, rfl⟩ := h₁
      have hS : (s.heap.push { cls := .type "list", data := .seq #[] }).get? s.heap.objs.size = some { cls := .type "list", data := .seq #[] } := Heap.get?_push_size _ rfl
      refine ⟨⟨_, hS, rfl⟩, PySem.F.args_list_init_2 _ _, ?_⟩
      show wpAny _ _ (do let old ← Builtin.List.listItems (.ref s.heap.objs.size); Builtin.List.listUpdate (.ref s.heap.objs.size) (fun _ => #[]); letGo old.toList.reverse; Builtin.List.listExtendWith (.ref s.heap.objs.size) (.ref y) .none) _ _ _
      refine wpAny_bind ?_
      unfold Builtin.List.listItems
      refine wpAny_bind (wpAny_seqItems hS rfl (wpAny_pure ?_))
      show wpAny _ _ (updateSeq s.heap.objs.size (fun _ => #[]) >>= fun _ => letGo (#[] : Array Value).toList.reverse >>= fun _ => Builtin.List.listExtendWith (.ref s.heap.objs.size) (.ref y) .none) _ _ _
      refine wpAny_bind (wpAny_updateSeq hS rfl ?_)
      have hS₂ := Heap.get?_update_self (Obj.mapSeq (fun _ => (#[] : Array Value))) hS rfl
      have oth : ∀ b o, b ≠ s.heap.objs.size → s.heap.get? b = some o → ((s.heap.push { cls := .type "list", data := .seq #[] }).update s.heap.objs.size (Obj.mapSeq (fun _ => (#[] : Array Value)))).get? b = some o :=
        fun b o hb e => (Heap.get?_update_other _ _ (Ne.symm hb)).trans (Heap.get?_push_of_some _ e)
      refine wpAny_bind (wpAny_letGo ?_)
      have hyS : s.heap.objs.size ≠ y := Nat.ne_of_gt (lt _ hm2)
      have hxS : s.heap.objs.size ≠ x := Nat.ne_of_gt (lt _ hm)
      have hr : s.heap.get? y = some (revObj x ((ws.toArray.size : Int) - 1 - ((0 : Nat) : Int))) := by
        have := S.mem hm2
        rw [this]; simp [e1]
      refine rv_extend (A := f.A.in1) (src_lrev y x hxy ws.toArray) o.hh ⟨Nat.zero_le _, ⟨_, oth _ _ hyS.symm hr, rfl, rfl⟩, ⟨_, oth _ _ hxS.symm (S.mem hm), rfl, _, rfl⟩⟩ s.heap.objs.size hyS hxS .none #[] _ hS₂ (fun h' tk acc' c' hk hS' hacc => ?_) (by rw [sizeLine_eq]; simp; omega)
      refine ⟨rfl, ?_⟩
      have e3 := items_rev (acc := []) hacc
      -- the fresh list in the ledger, then the iterator leaves
      have S1 : St prog w f { s with heap := s.heap.push { cls := .type "list", data := .seq #[] } } m ((s.heap.objs.size, listOf ([] : List Value).toArray 0) :: nx) ε (H.put s.heap.objs.size (.list [])) :=
        S.new (S.F.push _) (S.N.push S.F _) rfl lt (.list .nil)
      have hH0 : H₀ s.heap.objs.size = none := by
        cases q0 : H₀ s.heap.objs.size with
        | none => rfl
        | some v => have := hsub _ _ q0; rw [S.fresh lt] at this; cases this
      obtain ⟨nx', S', x'⟩ := S1.but2 (s' := { s with heap := h', toks := tk }) (I := y) (D := s.heap.objs.size) (aI := .opq (revObj x ((l.length : Int) - 1))) (aD := .list []) (H₀ := H₀.put s.heap.objs.size (.list [])) (aD' := .list l.reverse) (.tail _ hm2)
        (by unfold Hp.put; rw [if_neg (Ne.symm hyS)]; exact hy) (.head _) (by unfold Hp.put; rw [if_pos rfl]) (by unfold Hp.put; rw [if_neg (Ne.symm hyS)]; exact h0)
        (fun a oo e => by
          unfold Hp.put at e ⊢
          split at e
          · rename_i z; rw [if_pos z]; exact e
          · rename_i z; rw [if_neg z]; exact hsub _ _ e)
        (fun b ob hb hb2 e => hk b ob hb hb2 ((Heap.get?_update_other _ _ (Ne.symm hb)).trans e)) hS' fun nx' z => by
          have : acc' = (ws.reverse).toArray := by rw [← List.nil_append ws.reverse, ← e3]
          rw [this]
          exact .list ((va.ext ((Ext.cons _ _).trans z)).reverse)
      have e4 : (H₀.put s.heap.objs.size (.list [])).put s.heap.objs.size (.list l.reverse) = H₀.put s.heap.objs.size (.list l.reverse) := by
        funext b; unfold Hp.put; split <;> rfl
      rw [e4] at S'
      exact ⟨⟨h', _, rfl⟩, nx', .ref _, _, S', (Ext.cons _ _).trans x', .ref _, q _ hH0⟩
end
end Mine
set_option Elab.async false
set_option linter.unusedVariables false
set_option maxRecDepth 100000
namespace Mine
open PySem PySem.W PySem.Calls PySem.Spec PyProof.Rows
section
variable {prog : Program} {w : World} {f : Fm} {ε : En} {H : Hp} {s s' : Shared} {m : Str → Option Value} {nx nx' : Led}
/-! a heap may be forgotten in part -/
noncomputable def Sub (H H' : Hp) : Prop := ∀ a o, H a = some o → H' a = some o
theorem Sub.refl (H : Hp) : Sub H H := fun _ _ h => h
theorem Sub.trans {a b c : Hp} (h : Sub a b) (k : Sub b c) : Sub a c := fun x o e => k x o (h x o e)
theorem Sub.fresh {H : Hp} {a : Addr} {o : AO} (h : H a = none) : Sub H (H.put a o) := fun b ob e => by
  unfold Hp.put
  split
  · rename_i q; rw [q, h] at e; cases e
  · exact e
theorem Sub.none {H H' : Hp} {a : Addr} (h : Sub H H') (e : H' a = none) : H a = none := by
  cases q : H a with
  | none => rfl
  | some o => have := h _ _ q; rw [e] at this; cases this
theorem Ct.weak {fa : Addr} {n : Nat} {args : List AV} {Q : AV → Hp → Prop} (h : Ct prog w fa n args H fun v H' => ∃ H'', Sub H'' H' ∧ Q v H'') : Ct prog w fa n args H Q :=
  fun f A s m nx ε vs R o a b c d S hv r => h f A s m nx ε vs R o a b c d S hv fun v s' ⟨x, nx', av, H', p, q, t, H'', u1, u2⟩ => r v s' ⟨x, nx', av, H'', p.weak (fun _ _ e => e) u1, q, t, u2⟩
theorem S1.weakP {t : Sem Flow} {Q : FV → En → Hp → Prop} (h : S1 prog w f t ε H fun v ε' H' => ∃ ε'' H'', (∀ x v, ε''.get x = some v → ε'.get x = some v) ∧ Sub H'' H' ∧ Q v ε'' H'') : S1 prog w f t ε H Q := fun o s m nx S =>
  h.use o S fun fl s' m' nx' fv ε' H' a b c d ⟨ε'', H'', u0, u1, u2⟩ => ⟨a, m', nx', fv, ε'', H'', b.weak u0 u1, c, d, u2⟩
/-! puts -/
theorem put_get (H : Hp) (a : Addr) (o : AO) : H.put a o a = some o := if_pos rfl
theorem put_ne {H : Hp} {a b : Addr} {o : AO} (h : b ≠ a) : H.put a o b = H b := if_neg h
theorem put_old {H : Hp} {a b : Addr} {o ob : AO} (h : H a = none) (e : H b = some ob) : H.put a o b = some ob := Sub.fresh h _ _ e
theorem put_none {H : Hp} {a b : Addr} {o : AO} (e : H.put a o b = none) : b ≠ a ∧ H b = none := by
  unfold Hp.put at e
  split at e
  · cases e
  · exact ⟨by assumption, e⟩
theorem put_comm {H : Hp} {a b : Addr} {o p : AO} (h : a ≠ b) : (H.put a o).put b p = (H.put b p).put a o := by
  funext c
  unfold Hp.put
  by_cases h1 : c = a
  · subst h1; simp [h]
  · simp [h1]
theorem put_put (H : Hp) (a : Addr) (o p : AO) : (H.put a o).put a p = H.put a p := by
  funext c
  unfold Hp.put
  split <;> rfl
theorem put_same {H : Hp} {a : Addr} {o : AO} (h : H a = some o) : H.put a o = H := by
  funext c
  unfold Hp.put
  split
  · rename_i e; rw [e, h]
  · rfl
theorem put_sub {H H' : Hp} (h : Sub H H') (a : Addr) (o : AO) : Sub (H.put a o) (H'.put a o) := fun b ob e => by
  unfold Hp.put at e ⊢
  split at e
  · rename_i q; rw [if_pos q]; exact e
  · rename_i q; rw [if_neg q]; exact h _ _ e

/-! terms -/
inductive Tm where
  | v (k : Nat)
  | a (n : Int)
  | i (n : Int)
  | s1 (t : Tm)
  | s2 (p : Bool) (t u : Tm)
deriving DecidableEq
noncomputable def Tm.enc : Tm → AV
  | .v k => .tup [.str "v", .int k]
  | .a n => .tup [.str "a", .int n]
  | .i n => .tup [.str "i", .int n]
  | .s1 t => .tup [.str "s", .int 12, .tup [t.enc]]
  | .s2 p t u => .tup [.str "s", .int (if p then 14 else 0), .tup [t.enc, u.enc]]
noncomputable def Tm.tag : Tm → Str
  | .v _ => "v"
  | .a _ => "a"
  | .i _ => "i"
  | .s1 _ => "s"
  | .s2 _ _ _ => "s"
noncomputable def Tm.args : Tm → List Tm
  | .s1 t => [t]
  | .s2 _ t u => [t, u]
  | _ => []
noncomputable def Tm.snd : Tm → Int
  | .v k => k
  | .a n => n
  | .i n => n
  | .s1 _ => 12
  | .s2 p _ _ => if p then 14 else 0
noncomputable def Tm.isS : Tm → Bool
  | .s1 _ => true
  | .s2 _ _ _ => true
  | _ => false
noncomputable def Tm.isV : Tm → Bool
  | .v _ => true
  | _ => false
noncomputable def Tm.size : Tm → Nat
  | .s1 t => t.size + 1
  | .s2 _ t u => t.size + u.size + 1
  | _ => 1
noncomputable def Tm.vars : Tm → List Nat
  | .v k => [k]
  | .s1 t => t.vars
  | .s2 _ t u => t.vars ++ u.vars
  | _ => []
noncomputable def Tm.body (t : Tm) : List AV := if t.isS then [.str t.tag, .int t.snd, .tup (t.args.map Tm.enc)] else [.str t.tag, .int t.snd]
theorem Tm.enc_eq (t : Tm) : t.enc = .tup t.body := by cases t <;> rfl
theorem Tm.body0 (t : Tm) : t.body[0]? = some (.str t.tag) := by cases t <;> rfl
theorem Tm.body1 (t : Tm) : t.body[1]? = some (.int t.snd) := by cases t <;> rfl
theorem Tm.body2 {t : Tm} (h : t.isS = true) : t.body[2]? = some (.tup (t.args.map Tm.enc)) := by cases t <;> first | rfl | cases h
theorem Tm.tag_s (t : Tm) : (t.tag == ("s" : Str)) = t.isS := by cases t <;> rfl
theorem Tm.tag_v (t : Tm) : (t.tag == ("v" : Str)) = t.isV := by cases t <;> rfl
theorem e_tm {x : Str} {p ps : Pos} {j : Int} {c : Nat} {i : Nat} {l : List AV} {d : AV} {Q : AV → Hp → Prop} (hv : ε.get x = some (.tup l)) (hj : j = (i : Int)) (hl : l[i]? = some d) (hx : f.env.kindOf x = some .local) (q : Q d H) (hi : i < 1000000 := by decide)
    (hd : (x == ("__debug__" : Str)) = false := by decide)
    (hs : ∀ a k t, subscripted (.Constant (.int j) c ps) false (.ref a) (.int k t) = operate [.ref a, .int k t] (getItem (.ref a) (.int k t)) := by intros; rfl)
    (ht : ∀ a r, letTemporaryGo (.Name x p) (.ref a) r = pure () := by intros; rfl) {pos : Pos} : E1 prog w f (.Subscript (.Name x p) (.Constant (.int j) c ps) pos) ε H Q :=
  e_item (e_local hv hx (e_int ⟨i, l, d, by rw [hj], hi, hl, q, .inl rfl⟩) hd) hs ht
end
end Mine
set_option Elab.async false
set_option linter.unusedVariables false
set_option maxRecDepth 100000
namespace Mine
open PySem PySem.W PySem.Calls PySem.Spec PyProof.Rows
structure Mk where
  (x dx c s l kr pl : Addr)
structure Sg where
  code : List AV
  seen : Int → Bool
  loc : Int → Bool
  nxt : Int
noncomputable def Mk.fs (M : Mk) (n : Int) : List (Str × AV) := [("kernel", .ref M.kr), ("plan", .ref M.pl), ("code", .ref M.c), ("seen", .ref M.s), ("local", .ref M.l), ("next_temporary", .int n)]
noncomputable def Mk.put (M : Mk) (H : Hp) (σ : Sg) : Hp := (((H.put M.c (.list σ.code)).put M.s (.set true σ.seen)).put M.l (.set false σ.loc)).put M.dx (.ns (M.fs σ.nxt))
structure Pl where
  kd : Nat → Str
  sl : Nat → Int
  dom : Nat → Bool
noncomputable def Pl.pm (P : Pl) (k : Nat) : Bool := P.kd k == ("perm" : Str)
noncomputable def Pl.vd (P : Pl) (k : Nat) : Bool := P.kd k == ("void" : Str)
inductive PlanAt (H : Hp) (P : Pl) (l : List (Int × AV)) (k : Nat) : Prop
  | intro (hk : k < 5) (a adx : Addr) (afs : List (Str × AV)) : kvGet k l = some (.ref a) → H a = some (.inst 319 adx) → H adx = some (.ns afs) → nsGetL "kind" afs = some (.str (P.kd k)) → nsGetL "slot" afs = some (.int (P.sl k)) → PlanAt H P l k
inductive PlanOk (H : Hp) (pl : Addr) (P : Pl) : Prop
  | intro (pdx : Addr) (pfs : List (Str × AV)) (inf : Addr) (l : List (Int × AV)) : H pl = some (.inst 375 pdx) → H pdx = some (.ns pfs) → nsGetL "infos" pfs = some (.ref inf) → H inf = some (.dict l) → inf ≠ sysModules → (∀ k : Nat, P.dom k = true → PlanAt H P l k) → PlanOk H pl P
structure Mk.Ok (M : Mk) (P : Pl) (H : Hp) : Prop where
  x : H M.x = some (.inst 265 M.dx)
  dx : H M.dx = none
  c : H M.c = none
  s : H M.s = none
  l : H M.l = none
  n1 : M.c ≠ M.s
  n2 : M.c ≠ M.l
  n3 : M.c ≠ M.dx
  n4 : M.s ≠ M.l
  n5 : M.s ≠ M.dx
  n6 : M.l ≠ M.dx
  plan : PlanOk H M.pl P
theorem PlanOk.sub {H H' : Hp} {pl : Addr} {P : Pl} (h : PlanOk H pl P) (k : Sub H H') : PlanOk H' pl P :=
  let ⟨pdx, pfs, inf, l, h1, h2, h3, h4, h5, h6⟩ := h
  ⟨pdx, pfs, inf, l, k _ _ h1, k _ _ h2, h3, k _ _ h4, h5, fun j hj => let ⟨h0, a, adx, afs, a1, a2, a3, a4, a5⟩ := h6 j hj; ⟨h0, a, adx, afs, a1, k _ _ a2, k _ _ a3, a4, a5⟩⟩
noncomputable def Sg.emit (σ : Sg) (d : AV) : Sg := { σ with code := σ.code ++ [d] }
noncomputable def Sg.newT (σ : Sg) : Sg := { σ with nxt := σ.nxt + 1 }
noncomputable def Sg.see (σ : Sg) (k : Nat) : Sg := { σ with seen := Sadd σ.seen k }
noncomputable def Sg.addL (σ : Sg) (k : Nat) : Sg := { σ with loc := Sadd σ.loc k }
noncomputable def Sg.delL (σ : Sg) (k : Nat) : Sg := { σ with loc := Sdel σ.loc k }
noncomputable def reg (n : Int) : AV := .tup [.str "t", .int n]
noncomputable def Pl.plc (P : Pl) (k : Nat) : AV := if P.pm k then .tup [.str "y", .int (P.sl k)] else reg k
section
variable {M : Mk} {P : Pl} {H : Hp} {σ : Sg}
theorem Mk.Ok.sub (K : M.Ok P H) : Sub H (M.put H σ) := fun a o e => by
  have h1 : a ≠ M.dx := fun z => by rw [z, K.dx] at e; cases e
  have h2 : a ≠ M.l := fun z => by rw [z, K.l] at e; cases e
  have h3 : a ≠ M.s := fun z => by rw [z, K.s] at e; cases e
  have h4 : a ≠ M.c := fun z => by rw [z, K.c] at e; cases e
  unfold Mk.put
  rw [put_ne h1, put_ne h2, put_ne h3, put_ne h4]; exact e
theorem Mk.Ok.px (K : M.Ok P H) : M.put H σ M.x = some (.inst 265 M.dx) := K.sub _ _ K.x
theorem Mk.Ok.pdx (K : M.Ok P H) : M.put H σ M.dx = some (.ns (M.fs σ.nxt)) := put_get _ _ _
theorem Mk.Ok.pl (K : M.Ok P H) : M.put H σ M.l = some (.set false σ.loc) := by unfold Mk.put; rw [put_ne K.n6, put_get]
theorem Mk.Ok.ps (K : M.Ok P H) : M.put H σ M.s = some (.set true σ.seen) := by unfold Mk.put; rw [put_ne K.n5, put_ne K.n4, put_get]
theorem Mk.Ok.pc (K : M.Ok P H) : M.put H σ M.c = some (.list σ.code) := by unfold Mk.put; rw [put_ne K.n3, put_ne K.n2, put_ne K.n1, put_get]
theorem Mk.Ok.setC (K : M.Ok P H) (l : List AV) : (M.put H σ).put M.c (.list l) = M.put H { σ with code := l } := by
  unfold Mk.put
  rw [put_comm K.n3.symm, put_comm K.n2.symm, put_comm K.n1.symm, put_put]
theorem Mk.Ok.setS (K : M.Ok P H) (S : Int → Bool) : (M.put H σ).put M.s (.set true S) = M.put H { σ with seen := S } := by
  unfold Mk.put
  rw [put_comm K.n5.symm, put_comm K.n4.symm, put_put]
theorem Mk.Ok.setL (K : M.Ok P H) (S : Int → Bool) : (M.put H σ).put M.l (.set false S) = M.put H { σ with loc := S } := by
  unfold Mk.put
  rw [put_comm K.n6.symm, put_put]
theorem Mk.Ok.setN (K : M.Ok P H) (n : Int) : (M.put H σ).put M.dx (.ns (M.fs n)) = M.put H { σ with nxt := n } := by
  unfold Mk.put
  rw [put_put]
/-- a new object beside the maker -/
theorem Mk.Ok.new (K : M.Ok P H) {a : Addr} (o : AO) (h : M.put H σ a = none) : M.Ok P (H.put a o) ∧ (M.put H σ).put a o = M.put (H.put a o) σ := by
  unfold Mk.put at h
  obtain ⟨a1, h⟩ := put_none h
  obtain ⟨a2, h⟩ := put_none h
  obtain ⟨a3, h⟩ := put_none h
  obtain ⟨a4, h⟩ := put_none h
  have ax : M.x ≠ a := fun e => by rw [← e, K.x] at h; cases h
  refine ⟨⟨by rw [put_ne ax]; exact K.x, by rw [put_ne a1.symm]; exact K.dx, by rw [put_ne a4.symm]; exact K.c, by rw [put_ne a3.symm]; exact K.s, by rw [put_ne a2.symm]; exact K.l, K.n1, K.n2, K.n3, K.n4, K.n5, K.n6, K.plan.sub (Sub.fresh h)⟩, ?_⟩
  unfold Mk.put
  rw [put_comm a1.symm, put_comm a2.symm, put_comm a3.symm, put_comm a4.symm]
/-- what stands in the ground of a maker is turned -/
theorem Mk.Ok.turn (K : M.Ok P H) {a : Addr} {o₀ : AO} (o : AO) (h : H a = some o₀) (hx : M.x ≠ a) (hp : PlanOk (H.put a o) M.pl P) : M.Ok P (H.put a o) ∧ (M.put H σ).put a o = M.put (H.put a o) σ := by
  have a1 : a ≠ M.dx := fun z => by rw [z, K.dx] at h; cases h
  have a2 : a ≠ M.l := fun z => by rw [z, K.l] at h; cases h
  have a3 : a ≠ M.s := fun z => by rw [z, K.s] at h; cases h
  have a4 : a ≠ M.c := fun z => by rw [z, K.c] at h; cases h
  refine ⟨⟨by rw [put_ne hx]; exact K.x, by rw [put_ne a1.symm]; exact K.dx, by rw [put_ne a4.symm]; exact K.c, by rw [put_ne a3.symm]; exact K.s, by rw [put_ne a2.symm]; exact K.l, K.n1, K.n2, K.n3, K.n4, K.n5, K.n6, hp⟩, ?_⟩
  unfold Mk.put
  rw [put_comm a1.symm, put_comm a2.symm, put_comm a3.symm, put_comm a4.symm]
theorem Mk.subPut (M : Mk) {H H' : Hp} (h : Sub H H') (σ : Sg) : Sub (M.put H σ) (M.put H' σ) := put_sub (put_sub (put_sub (put_sub h _ _) _ _) _ _) _ _
end
section
variable {prog : Program} {w : World} {f : Fm} {ε : En} {H : Hp} {M : Mk} {P : Pl} {σ : Sg}
theorem at265_code : attrOk (KK w) 265 "code" = true := by kernel_rfl
theorem at265_seen : attrOk (KK w) 265 "seen" = true := by kernel_rfl
theorem at265_local : attrOk (KK w) 265 "local" = true := by kernel_rfl
theorem at265_plan : attrOk (KK w) 265 "plan" = true := by kernel_rfl
theorem at265_next : attrOk (KK w) 265 "next_temporary" = true := by kernel_rfl
theorem st265_next : setOk (KK w) 265 "next_temporary" = true := by kernel_rfl
theorem at375_infos : attrOk (KK w) 375 "infos" = true := by kernel_rfl
theorem at319_kind : attrOk (KK w) 319 "kind" = true := by kernel_rfl
theorem at319_slot : attrOk (KK w) 319 "slot" = true := by kernel_rfl
theorem e_mattr {x name : Str} {p pos : Pos} {av : AV} {Q : AV → Hp → Prop} (K : M.Ok P H) (hv : ε.get x = some (.ref M.x)) (hx : f.env.kindOf x = some .local) (hn : nsGetL name (M.fs σ.nxt) = some av) (ha : attrOk (KK w) 265 name = true) (q : Q av (M.put H σ))
    (hd : (x == ("__debug__" : Str)) = false := by decide)
    (he : eval (.Attribute (.Name x p) name pos) f.env = (do let o ← eval (.Name x p) f.env; standAt pos.atName; let r ← holding [o] (getAttr o name true); letTemporaryGo (.Name x p) o r; pure r) := by rfl) : E1 prog w f (.Attribute (.Name x p) name pos) ε (M.put H σ) Q :=
  e_attr (e_local hv hx ⟨M.x, 265, M.dx, M.fs σ.nxt, av, rfl, K.px, K.pdx, ha, hn, q⟩ hd) he
theorem emit_ok {d : AV} {Q : AV → Hp → Prop} (K : M.Ok P H) (hl : σ.code.length < 1000000) (q : Q .none (M.put H (σ.emit d))) : Ct prog w 70 1 [.ref M.x, d] (M.put H σ) Q := by
  refine ct_def (fa := 70) (n := 0) rfl ?_ ?_ ?_ ?_ ?_ ?_ ?_ ?_
  · rfl
  · intro vs h
    rcases vs with _ | ⟨a, _ | ⟨b, _ | _⟩⟩ <;> first | rfl | (simp at h)
  · rfl
  · rfl
  · rfl
  · rfl
  · rfl
  · intro f A g L
    refine s_cons (s_expr ?_)
    refine e_methB (e_mattr K rfl rfl rfl at265_code ⟨M.c, _, rfl, mb_append K.pc, ?_⟩)
    refine es_cons (e_local rfl rfl (es_nil ?_))
    refine cv_append K.pc hl ⟨rfl, ?_⟩
    refine s_nil ?_
    rw [K.setC]
    exact q
theorem newT_ok {Q : AV → Hp → Prop} (K : M.Ok P H) (q : Q (reg σ.nxt) (M.put H σ.newT)) : Ct prog w 77 1 [.ref M.x] (M.put H σ) Q := by
  refine ct_def (fa := 77) (n := 0) rfl ?_ ?_ ?_ ?_ ?_ ?_ ?_ ?_
  · rfl
  · intro vs h
    rcases vs with _ | ⟨a, _ | _⟩ <;> first | rfl | (simp at h)
  · rfl
  · rfl
  · rfl
  · rfl
  · rfl
  · intro f A g L
    refine s_cons (s_assign rfl (e_mattr K rfl rfl rfl at265_next ?_))
    refine s_cons (s_setAttr (e_add (e_local rfl rfl (e_int ⟨_, _, rfl, rfl, ?_⟩))))
    refine e_local rfl rfl ⟨M.x, 265, M.dx, M.fs σ.nxt, rfl, K.px, K.pdx, Nat.le_of_ble_eq_true rfl, st265_next, ?_⟩
    refine s_cons (s_return (e_tuple (es_cons (e_str (es_cons (e_local rfl rfl (es_nil ⟨Nat.le_of_ble_eq_true rfl, ?_⟩)))))))
    have e : nsPutL "next_temporary" (.int (σ.nxt + 1)) (M.fs σ.nxt) = M.fs (σ.nxt + 1) := rfl
    rw [e, K.setN]
    exact q
end
end Mine
set_option Elab.async false
set_option linter.unusedVariables false
set_option maxRecDepth 100000
namespace Mine
open PySem PySem.W PySem.Calls PySem.Spec PyProof.Rows
section
variable {prog : Program} {w : World} {f : Fm} {ε : En} {H : Hp} {M : Mk} {P : Pl} {σ : Sg}
theorem me_emit : methOk (KK w) 265 "emit" 70 = true := by kernel_rfl
theorem me_newT : methOk (KK w) 265 "new_temporary" 77 = true := by kernel_rfl
theorem me_void : methOk (KK w) 265 "is_void" 84 = true := by kernel_rfl
theorem me_perm : methOk (KK w) 265 "is_permanent" 91 = true := by kernel_rfl
theorem me_place : methOk (KK w) 265 "place" 98 = true := by kernel_rfl
theorem e_mcall {x name : Str} {fa : Addr} {a : PySem.Expr} {es : List PySem.Expr} {p apos pos : Pos} {pl : Sem Bool} {Q : AV → Hp → Prop} (K : M.Ok P H) (hv : ε.get x = some (.ref M.x)) (hx : f.env.kindOf x = some .local) (hm : methOk (KK w) 265 name fa = true) (hn : nsGetL name (M.fs σ.nxt) = none)
    (h : ES prog w f (a :: es) ε (M.put H σ) fun vs H₂ => CV prog w f (.ref fa) (.ref M.x :: vs) ε H₂ Q)
    (hd : (x == ("__debug__" : Str)) = false := by decide)
    (he : eval (.Call (.Attribute (.Name x p) name apos) (a :: es) [] pos) f.env = (do let ov ← eval (.Name x p) f.env; standAt apos.atName; let (g, first) ← holding [ov] (getMethod ov name pl); callWith pos g first (backTo pos (starEach (a :: es) f.env)) []) := by rfl)
    (h1 : starEach (a :: es) f.env = (false, eval a f.env) :: starEach es f.env := by rfl) (h2 : (backTo pos (starEach es f.env)).any (·.1) = false := by rfl) : E1 prog w f (.Call (.Attribute (.Name x p) name apos) (a :: es) [] pos) ε (M.put H σ) Q :=
  e_meth (e_local hv hx ⟨M.x, 265, M.dx, _, fa, rfl, K.px, K.pdx, hm, hn, h⟩ hd) he h1 h2
theorem e_mcall0 {x name : Str} {fa : Addr} {p apos pos : Pos} {pl : Sem Bool} {Q : AV → Hp → Prop} (K : M.Ok P H) (hv : ε.get x = some (.ref M.x)) (hx : f.env.kindOf x = some .local) (hm : methOk (KK w) 265 name fa = true) (hn : nsGetL name (M.fs σ.nxt) = none)
    (h : CV prog w f (.ref fa) [.ref M.x] ε (M.put H σ) Q)
    (hd : (x == ("__debug__" : Str)) = false := by decide)
    (he : eval (.Call (.Attribute (.Name x p) name apos) [] [] pos) f.env = (do let ov ← eval (.Name x p) f.env; standAt apos.atName; let (g, first) ← holding [ov] (getMethod ov name pl); callWith pos g first (backTo pos (starEach [] f.env)) []) := by rfl) : E1 prog w f (.Call (.Attribute (.Name x p) name apos) [] [] pos) ε (M.put H σ) Q :=
  e_meth0 (e_local hv hx ⟨M.x, 265, M.dx, _, fa, rfl, K.px, K.pdx, hm, hn, h⟩ hd) he
/-- self.emit(..) -/
theorem s_emit {x : Str} {a : PySem.Expr} {p apos pos ep : Pos} {pl : Sem Bool} {Q : FV → En → Hp → Prop} (K : M.Ok P H) (hv : ε.get x = some (.ref M.x)) (hx : f.env.kindOf x = some .local) (hr : 1 ≤ f.r)
    (h : E1 prog w f a ε (M.put H σ) fun v H₁ => ∃ σ', H₁ = M.put H σ' ∧ σ'.code.length < 1000000 ∧ Q .next ε (M.put H (σ'.emit v)))
    (hd : (x == ("__debug__" : Str)) = false := by decide)
    (he : eval (.Call (.Attribute (.Name x p) "emit" apos) [a] [] pos) f.env = (do let ov ← eval (.Name x p) f.env; standAt apos.atName; let (g, first) ← holding [ov] (getMethod ov "emit" pl); callWith pos g first (backTo pos (starEach [a] f.env)) []) := by rfl)
    (h1 : starEach [a] f.env = (false, eval a f.env) :: starEach [] f.env := by rfl) (h2 : (backTo pos (starEach [] f.env)).any (·.1) = false := by rfl)
    (hi : interactive f.env = false := by rfl) (hs : swapsWith (.Call (.Attribute (.Name x p) "emit" apos) [a] [] pos) none ep.line f.env = pure false := by rfl) :
    S1 prog w f (exec (.Expr (.Call (.Attribute (.Name x p) "emit" apos) [a] [] pos) ep) f.env) ε (M.put H σ) Q :=
  s_expr (e_mcall K hv hx me_emit rfl (es_cons (h.mono fun v H₁ ⟨σ', e, hl, q⟩ => es_nil (by subst e; exact cv_def (emit_ok K hl ⟨rfl, q⟩) hr)) h1) hd he h1 h2) hi hs
theorem e_newT {x : Str} {p apos pos : Pos} {pl : Sem Bool} {Q : AV → Hp → Prop} (K : M.Ok P H) (hv : ε.get x = some (.ref M.x)) (hx : f.env.kindOf x = some .local) (hr : 1 ≤ f.r) (q : Q (reg σ.nxt) (M.put H σ.newT))
    (hd : (x == ("__debug__" : Str)) = false := by decide)
    (he : eval (.Call (.Attribute (.Name x p) "new_temporary" apos) [] [] pos) f.env = (do let ov ← eval (.Name x p) f.env; standAt apos.atName; let (g, first) ← holding [ov] (getMethod ov "new_temporary" pl); callWith pos g first (backTo pos (starEach [] f.env)) []) := by rfl) : E1 prog w f (.Call (.Attribute (.Name x p) "new_temporary" apos) [] [] pos) ε (M.put H σ) Q :=
  e_mcall0 K hv hx me_newT rfl (cv_def (newT_ok K q) hr) hd he

theorem void_ok {k : Nat} {Q : AV → Hp → Prop} (K : M.Ok P H) (hk : P.dom k = true) (q : Q (.bool (P.vd k)) (M.put H σ)) : Ct prog w 84 7 [.ref M.x, .int k] (M.put H σ) Q := by
  refine ct_def (fa := 84) (n := 6) rfl ?_ ?_ ?_ ?_ ?_ ?_ ?_ ?_
  · rfl
  · intro vs h
    rcases vs with _ | ⟨a, _ | ⟨b, _ | _⟩⟩ <;> first | rfl | (simp at h)
  · rfl
  · rfl
  · rfl
  · rfl
  · rfl
  · intro f A g L
    obtain ⟨pdx, pfs, inf, l, h1, h2, h3, h4, h5, h6⟩ := K.plan.sub (K.sub (σ := σ))
    obtain ⟨hk5, a, adx, afs, a1, a2, a3, a4, a5⟩ := h6 k hk
    refine s_cons (s_return (e_cmp (Nat.le_refl 6) ?_))
    refine e_attr (e_itemD (e_attr (e_mattr K rfl rfl rfl at265_plan ⟨_, _, _, _, _, rfl, h1, h2, at375_infos, h3, ?_⟩)))
    refine e_local rfl rfl ⟨_, _, _, _, rfl, rfl, h4, a1, a, _, adx, afs, _, rfl, a2, a3, at319_kind, a4, e_str ⟨_, c_seq _ _, ?_⟩⟩
    exact q
theorem perm_ok {k : Nat} {Q : AV → Hp → Prop} (K : M.Ok P H) (hk : P.dom k = true) (q : Q (.bool (P.pm k)) (M.put H σ)) : Ct prog w 91 7 [.ref M.x, .int k] (M.put H σ) Q := by
  refine ct_def (fa := 91) (n := 6) rfl ?_ ?_ ?_ ?_ ?_ ?_ ?_ ?_
  · rfl
  · intro vs h
    rcases vs with _ | ⟨a, _ | ⟨b, _ | _⟩⟩ <;> first | rfl | (simp at h)
  · rfl
  · rfl
  · rfl
  · rfl
  · rfl
  · intro f A g L
    obtain ⟨pdx, pfs, inf, l, h1, h2, h3, h4, h5, h6⟩ := K.plan.sub (K.sub (σ := σ))
    obtain ⟨hk5, a, adx, afs, a1, a2, a3, a4, a5⟩ := h6 k hk
    refine s_cons (s_return (e_cmp (Nat.le_refl 6) ?_))
    refine e_attr (e_itemD (e_attr (e_mattr K rfl rfl rfl at265_plan ⟨_, _, _, _, _, rfl, h1, h2, at375_infos, h3, ?_⟩)))
    refine e_local rfl rfl ⟨_, _, _, _, rfl, rfl, h4, a1, a, _, adx, afs, _, rfl, a2, a3, at319_kind, a4, e_str ⟨_, c_seq _ _, ?_⟩⟩
    exact q
theorem place_ok {k : Nat} {Q : AV → Hp → Prop} (K : M.Ok P H) (hk : P.dom k = true) (q : Q (P.plc k) (M.put H σ)) : Ct prog w 98 7 [.ref M.x, .int k] (M.put H σ) Q := by
  refine ct_def (fa := 98) (n := 6) rfl ?_ ?_ ?_ ?_ ?_ ?_ ?_ ?_
  · rfl
  · intro vs h
    rcases vs with _ | ⟨a, _ | ⟨b, _ | _⟩⟩ <;> first | rfl | (simp at h)
  · rfl
  · rfl
  · rfl
  · rfl
  · rfl
  · intro f A g L
    obtain ⟨pdx, pfs, inf, l, h1, h2, h3, h4, h5, h6⟩ := K.plan.sub (K.sub (σ := σ))
    obtain ⟨hk5, a, adx, afs, a1, a2, a3, a4, a5⟩ := h6 k hk
    unfold Pl.plc Pl.pm at q
    refine s_cons (s_assign rfl (e_itemD (e_attr (e_mattr K rfl rfl rfl at265_plan ⟨_, _, _, _, _, rfl, h1, h2, at375_infos, h3, ?_⟩))))
    refine e_local rfl rfl ⟨_, _, _, _, rfl, rfl, h4, a1, ?_⟩
    refine s_cons (s_if (t_cmp (Nat.le_refl 6) (e_attr (e_local rfl rfl ⟨_, _, _, _, _, rfl, a2, a3, at319_kind, a4, e_str ⟨_, c_seq _ _, fun hc => ?_, fun hc => ?_⟩⟩))))
    · rw [hc, if_pos rfl] at q
      refine s_cons (s_return (e_tuple (es_cons (e_str (es_cons (e_attr (e_local rfl rfl ⟨_, _, _, _, _, rfl, a2, a3, at319_slot, a5, es_nil ⟨Nat.le_of_ble_eq_true rfl, ?_⟩⟩)))))))
      exact q
    · rw [hc, if_neg (by decide)] at q
      refine s_nil (s_cons (s_return (e_tuple (es_cons (e_str (es_cons (e_local rfl rfl (es_nil ⟨Nat.le_of_ble_eq_true rfl, ?_⟩))))))))
      exact q
/-- self.is_void(e) and its like -/
theorem e_isVoid {x : Str} {a : PySem.Expr} {p apos pos : Pos} {pl : Sem Bool} {Q : AV → Hp → Prop} (K : M.Ok P H) (hv : ε.get x = some (.ref M.x)) (hx : f.env.kindOf x = some .local) (hr : 7 ≤ f.r)
    (h : E1 prog w f a ε (M.put H σ) fun v H₁ => ∃ k : Nat, v = .int k ∧ P.dom k = true ∧ H₁ = M.put H σ ∧ Q (.bool (P.vd k)) (M.put H σ))
    (hd : (x == ("__debug__" : Str)) = false := by decide)
    (he : eval (.Call (.Attribute (.Name x p) "is_void" apos) [a] [] pos) f.env = (do let ov ← eval (.Name x p) f.env; standAt apos.atName; let (g, first) ← holding [ov] (getMethod ov "is_void" pl); callWith pos g first (backTo pos (starEach [a] f.env)) []) := by rfl)
    (h1 : starEach [a] f.env = (false, eval a f.env) :: starEach [] f.env := by rfl) (h2 : (backTo pos (starEach [] f.env)).any (·.1) = false := by rfl) : E1 prog w f (.Call (.Attribute (.Name x p) "is_void" apos) [a] [] pos) ε (M.put H σ) Q :=
  e_mcall K hv hx me_void rfl (es_cons (h.mono fun v H₁ ⟨k, e1, hk, e2, q⟩ => es_nil (by subst e1 e2; exact cv_def (void_ok K hk q) hr)) h1) hd he h1 h2
theorem e_isPerm {x : Str} {a : PySem.Expr} {p apos pos : Pos} {pl : Sem Bool} {Q : AV → Hp → Prop} (K : M.Ok P H) (hv : ε.get x = some (.ref M.x)) (hx : f.env.kindOf x = some .local) (hr : 7 ≤ f.r)
    (h : E1 prog w f a ε (M.put H σ) fun v H₁ => ∃ k : Nat, v = .int k ∧ P.dom k = true ∧ H₁ = M.put H σ ∧ Q (.bool (P.pm k)) (M.put H σ))
    (hd : (x == ("__debug__" : Str)) = false := by decide)
    (he : eval (.Call (.Attribute (.Name x p) "is_permanent" apos) [a] [] pos) f.env = (do let ov ← eval (.Name x p) f.env; standAt apos.atName; let (g, first) ← holding [ov] (getMethod ov "is_permanent" pl); callWith pos g first (backTo pos (starEach [a] f.env)) []) := by rfl)
    (h1 : starEach [a] f.env = (false, eval a f.env) :: starEach [] f.env := by rfl) (h2 : (backTo pos (starEach [] f.env)).any (·.1) = false := by rfl) : E1 prog w f (.Call (.Attribute (.Name x p) "is_permanent" apos) [a] [] pos) ε (M.put H σ) Q :=
  e_mcall K hv hx me_perm rfl (es_cons (h.mono fun v H₁ ⟨k, e1, hk, e2, q⟩ => es_nil (by subst e1 e2; exact cv_def (perm_ok K hk q) hr)) h1) hd he h1 h2
theorem e_place {x : Str} {a : PySem.Expr} {p apos pos : Pos} {pl : Sem Bool} {Q : AV → Hp → Prop} (K : M.Ok P H) (hv : ε.get x = some (.ref M.x)) (hx : f.env.kindOf x = some .local) (hr : 7 ≤ f.r)
    (h : E1 prog w f a ε (M.put H σ) fun v H₁ => ∃ k : Nat, v = .int k ∧ P.dom k = true ∧ H₁ = M.put H σ ∧ Q (P.plc k) (M.put H σ))
    (hd : (x == ("__debug__" : Str)) = false := by decide)
    (he : eval (.Call (.Attribute (.Name x p) "place" apos) [a] [] pos) f.env = (do let ov ← eval (.Name x p) f.env; standAt apos.atName; let (g, first) ← holding [ov] (getMethod ov "place" pl); callWith pos g first (backTo pos (starEach [a] f.env)) []) := by rfl)
    (h1 : starEach [a] f.env = (false, eval a f.env) :: starEach [] f.env := by rfl) (h2 : (backTo pos (starEach [] f.env)).any (·.1) = false := by rfl) : E1 prog w f (.Call (.Attribute (.Name x p) "place" apos) [a] [] pos) ε (M.put H σ) Q :=
  e_mcall K hv hx me_place rfl (es_cons (h.mono fun v H₁ ⟨k, e1, hk, e2, q⟩ => es_nil (by subst e1 e2; exact cv_def (place_ok K hk q) hr)) h1) hd he h1 h2
/-- self.seen.add(k) and its like -/
theorem s_see {x y : Str} {p p2 apos apos2 pos ep : Pos} {pl : Sem Bool} {k : Nat} {Q : FV → En → Hp → Prop} (K : M.Ok P H) (hv : ε.get x = some (.ref M.x)) (hx : f.env.kindOf x = some .local) (hv2 : ε.get y = some (.int k)) (hy : f.env.kindOf y = some .local) (hk : k < 5)
    (q : Q .next ε (M.put H (σ.see k)))
    (hd : (x == ("__debug__" : Str)) = false := by decide) (hd2 : (y == ("__debug__" : Str)) = false := by decide)
    (he0 : eval (.Attribute (.Name x p) "seen" apos) f.env = (do let o ← eval (.Name x p) f.env; standAt apos.atName; let r ← holding [o] (getAttr o "seen" true); letTemporaryGo (.Name x p) o r; pure r) := by rfl)
    (he : eval (.Call (.Attribute (.Attribute (.Name x p) "seen" apos) "add" apos2) [.Name y p2] [] pos) f.env = (do let ov ← eval (.Attribute (.Name x p) "seen" apos) f.env; standAt apos2.atName; let (g, first) ← holding [ov] (getMethod ov "add" pl); callWith pos g first (backTo pos (starEach [.Name y p2] f.env)) []) := by rfl)
    (h1 : starEach [.Name y p2] f.env = (false, eval (.Name y p2) f.env) :: starEach [] f.env := by rfl) (h2 : (backTo pos (starEach [] f.env)).any (·.1) = false := by rfl)
    (hi : interactive f.env = false := by rfl) (hs : swapsWith (.Call (.Attribute (.Attribute (.Name x p) "seen" apos) "add" apos2) [.Name y p2] [] pos) none ep.line f.env = pure false := by rfl) :
    S1 prog w f (exec (.Expr (.Call (.Attribute (.Attribute (.Name x p) "seen" apos) "add" apos2) [.Name y p2] [] pos) ep) f.env) ε (M.put H σ) Q :=
  s_expr (e_methB (e_mattr K hv hx rfl at265_seen ⟨M.s, _, rfl, mb_add K.ps, es_cons (e_local hv2 hy (es_nil (cv_add K.ps hk ⟨rfl, by rw [K.setS]; exact q⟩)) hd2) h1⟩ hd he0) he h1 h2) hi hs
theorem s_addL {x y : Str} {p p2 apos apos2 pos ep : Pos} {pl : Sem Bool} {k : Nat} {Q : FV → En → Hp → Prop} (K : M.Ok P H) (hv : ε.get x = some (.ref M.x)) (hx : f.env.kindOf x = some .local) (hv2 : ε.get y = some (.int k)) (hy : f.env.kindOf y = some .local) (hk : k < 5)
    (q : Q .next ε (M.put H (σ.addL k)))
    (hd : (x == ("__debug__" : Str)) = false := by decide) (hd2 : (y == ("__debug__" : Str)) = false := by decide)
    (he0 : eval (.Attribute (.Name x p) "local" apos) f.env = (do let o ← eval (.Name x p) f.env; standAt apos.atName; let r ← holding [o] (getAttr o "local" true); letTemporaryGo (.Name x p) o r; pure r) := by rfl)
    (he : eval (.Call (.Attribute (.Attribute (.Name x p) "local" apos) "add" apos2) [.Name y p2] [] pos) f.env = (do let ov ← eval (.Attribute (.Name x p) "local" apos) f.env; standAt apos2.atName; let (g, first) ← holding [ov] (getMethod ov "add" pl); callWith pos g first (backTo pos (starEach [.Name y p2] f.env)) []) := by rfl)
    (h1 : starEach [.Name y p2] f.env = (false, eval (.Name y p2) f.env) :: starEach [] f.env := by rfl) (h2 : (backTo pos (starEach [] f.env)).any (·.1) = false := by rfl)
    (hi : interactive f.env = false := by rfl) (hs : swapsWith (.Call (.Attribute (.Attribute (.Name x p) "local" apos) "add" apos2) [.Name y p2] [] pos) none ep.line f.env = pure false := by rfl) :
    S1 prog w f (exec (.Expr (.Call (.Attribute (.Attribute (.Name x p) "local" apos) "add" apos2) [.Name y p2] [] pos) ep) f.env) ε (M.put H σ) Q :=
  s_expr (e_methB (e_mattr K hv hx rfl at265_local ⟨M.l, _, rfl, mb_add K.pl, es_cons (e_local hv2 hy (es_nil (cv_add K.pl hk ⟨rfl, by rw [K.setL]; exact q⟩)) hd2) h1⟩ hd he0) he h1 h2) hi hs
theorem s_delL {x y : Str} {p p2 apos apos2 pos ep : Pos} {pl : Sem Bool} {k : Nat} {Q : FV → En → Hp → Prop} (K : M.Ok P H) (hv : ε.get x = some (.ref M.x)) (hx : f.env.kindOf x = some .local) (hv2 : ε.get y = some (.int k)) (hy : f.env.kindOf y = some .local)
    (q : Q .next ε (M.put H (σ.delL k)))
    (hd : (x == ("__debug__" : Str)) = false := by decide) (hd2 : (y == ("__debug__" : Str)) = false := by decide)
    (he0 : eval (.Attribute (.Name x p) "local" apos) f.env = (do let o ← eval (.Name x p) f.env; standAt apos.atName; let r ← holding [o] (getAttr o "local" true); letTemporaryGo (.Name x p) o r; pure r) := by rfl)
    (he : eval (.Call (.Attribute (.Attribute (.Name x p) "local" apos) "discard" apos2) [.Name y p2] [] pos) f.env = (do let ov ← eval (.Attribute (.Name x p) "local" apos) f.env; standAt apos2.atName; let (g, first) ← holding [ov] (getMethod ov "discard" pl); callWith pos g first (backTo pos (starEach [.Name y p2] f.env)) []) := by rfl)
    (h1 : starEach [.Name y p2] f.env = (false, eval (.Name y p2) f.env) :: starEach [] f.env := by rfl) (h2 : (backTo pos (starEach [] f.env)).any (·.1) = false := by rfl)
    (hi : interactive f.env = false := by rfl) (hs : swapsWith (.Call (.Attribute (.Attribute (.Name x p) "local" apos) "discard" apos2) [.Name y p2] [] pos) none ep.line f.env = pure false := by rfl) :
    S1 prog w f (exec (.Expr (.Call (.Attribute (.Attribute (.Name x p) "local" apos) "discard" apos2) [.Name y p2] [] pos) ep) f.env) ε (M.put H σ) Q :=
  s_expr (e_methB (e_mattr K hv hx rfl at265_local ⟨M.l, _, rfl, mb_discard K.pl, es_cons (e_local hv2 hy (es_nil (cv_discard K.pl ⟨rfl, by rw [K.setL]; exact q⟩)) hd2) h1⟩ hd he0) he h1 h2) hi hs
/-- k in self.seen and its like -/
theorem t_inSeen {x y : Str} {p p2 apos pos : Pos} {k : Nat} {Q : Bool → Hp → Prop} (K : M.Ok P H) (hv : ε.get x = some (.ref M.x)) (hx : f.env.kindOf x = some .local) (hv2 : ε.get y = some (.int k)) (hy : f.env.kindOf y = some .local) (hr : 6 ≤ f.r) (q : Q (σ.seen k) (M.put H σ))
    (hd : (x == ("__debug__" : Str)) = false := by decide) (hd2 : (y == ("__debug__" : Str)) = false := by decide)
    (he0 : eval (.Attribute (.Name x p) "seen" apos) f.env = (do let o ← eval (.Name x p) f.env; standAt apos.atName; let r ← holding [o] (getAttr o "seen" true); letTemporaryGo (.Name x p) o r; pure r) := by rfl)
    (hb : behindInMarks .In (.Attribute (.Name x p) "seen" apos) = false := by rfl) : T1 prog w f (.Compare (.Name y p2) [.In] [.Attribute (.Name x p) "seen" apos] pos) ε (M.put H σ) Q :=
  t_cmp hr (e_local hv2 hy (e_mattr K hv hx rfl at265_seen ⟨_, c_inS _ K.ps, q⟩ hd he0) hd2) hb
theorem t_notSeen {x y : Str} {p p2 apos pos : Pos} {k : Nat} {Q : Bool → Hp → Prop} (K : M.Ok P H) (hv : ε.get x = some (.ref M.x)) (hx : f.env.kindOf x = some .local) (hv2 : ε.get y = some (.int k)) (hy : f.env.kindOf y = some .local) (hr : 6 ≤ f.r) (q : Q (!σ.seen k) (M.put H σ))
    (hd : (x == ("__debug__" : Str)) = false := by decide) (hd2 : (y == ("__debug__" : Str)) = false := by decide)
    (he0 : eval (.Attribute (.Name x p) "seen" apos) f.env = (do let o ← eval (.Name x p) f.env; standAt apos.atName; let r ← holding [o] (getAttr o "seen" true); letTemporaryGo (.Name x p) o r; pure r) := by rfl)
    (hb : behindInMarks .NotIn (.Attribute (.Name x p) "seen" apos) = false := by rfl) : T1 prog w f (.Compare (.Name y p2) [.NotIn] [.Attribute (.Name x p) "seen" apos] pos) ε (M.put H σ) Q :=
  t_cmp hr (e_local hv2 hy (e_mattr K hv hx rfl at265_seen ⟨_, c_notInS _ K.ps, q⟩ hd he0) hd2) hb
theorem t_inLocal {x y : Str} {p p2 apos pos : Pos} {k : Nat} {Q : Bool → Hp → Prop} (K : M.Ok P H) (hv : ε.get x = some (.ref M.x)) (hx : f.env.kindOf x = some .local) (hv2 : ε.get y = some (.int k)) (hy : f.env.kindOf y = some .local) (hr : 6 ≤ f.r) (q : Q (σ.loc k) (M.put H σ))
    (hd : (x == ("__debug__" : Str)) = false := by decide) (hd2 : (y == ("__debug__" : Str)) = false := by decide)
    (he0 : eval (.Attribute (.Name x p) "local" apos) f.env = (do let o ← eval (.Name x p) f.env; standAt apos.atName; let r ← holding [o] (getAttr o "local" true); letTemporaryGo (.Name x p) o r; pure r) := by rfl)
    (hb : behindInMarks .In (.Attribute (.Name x p) "local" apos) = false := by rfl) : T1 prog w f (.Compare (.Name y p2) [.In] [.Attribute (.Name x p) "local" apos] pos) ε (M.put H σ) Q :=
  t_cmp hr (e_local hv2 hy (e_mattr K hv hx rfl at265_local ⟨_, c_inS _ K.pl, q⟩ hd he0) hd2) hb
end
end Mine
set_option Elab.async false
set_option linter.unusedVariables false
set_option maxRecDepth 100000
namespace Mine
open PySem PySem.W PySem.Calls PySem.Spec PyProof.Rows
noncomputable def Tm.cc (t : Tm) : AV := .tup [.int (if t.tag == ("a" : Str) then 4 else 5), .int t.snd]
noncomputable def Tm.var : Tm → Nat
  | .v k => k
  | _ => 0
theorem Tm.snd_var {t : Tm} (h : t.isV = true) : t.snd = (t.var : Int) := by cases t <;> first | rfl | cases h
noncomputable def Tm.dom (P : Pl) (t : Tm) : Prop := ∀ k ∈ t.vars, P.dom k = true
theorem Tm.dom_var {P : Pl} {t : Tm} (h : t.isV = true) (d : t.dom P) : P.dom t.var = true := by
  cases t with
  | v k => exact d _ (.head _)
  | _ => cases h
theorem Tm.dom_args {P : Pl} {t u : Tm} (d : t.dom P) (h : u ∈ t.args) : u.dom P := by
  cases t with
  | s1 a => simp [Tm.args] at h; subst h; exact d
  | s2 p a b =>
    simp [Tm.args] at h
    intro k hk
    rcases h with rfl | rfl
    · exact d k (List.mem_append_left _ hk)
    · exact d k (List.mem_append_right _ hk)
  | _ => simp [Tm.args] at h
noncomputable def Sg.mvar (P : Pl) (σ : Sg) (k : Nat) : Sg :=
  if !σ.seen k then (σ.see k).emit (.tup [.str "unify_variable", P.plc k])
  else if σ.loc k then σ.emit (.tup [.str "unify_local_value", P.plc k])
  else σ.emit (.tup [.str "unify_value", P.plc k])
noncomputable def Sg.svar (P : Pl) (σ : Sg) (k : Nat) : Sg :=
  if !σ.seen k then (σ.see k).emit (.tup [.str "set_variable", P.plc k])
  else if σ.loc k then
    if !P.pm k then (σ.emit (.tup [.str "set_local_value", P.plc k])).delL k else σ.emit (.tup [.str "set_local_value", P.plc k])
  else σ.emit (.tup [.str "set_value", P.plc k])
noncomputable def Sg.flush (σ : Sg) (op : Str) (vo : Nat) : Sg := if vo > 0 then σ.emit (.tup [.str op, .int vo]) else σ
section
variable {prog : Program} {w : World} {f : Fm} {ε : En} {H : Hp} {M : Mk} {P : Pl} {σ : Sg}
theorem cc_ok {t : Tm} {Q : AV → Hp → Prop} (q : Q t.cc H) : Ct prog w 49 7 [t.enc] H Q := by
  refine ct_def (fa := 49) (n := 6) rfl ?_ ?_ ?_ ?_ ?_ ?_ ?_ ?_
  · rfl
  · intro vs h
    rcases vs with _ | ⟨a, _ | _⟩ <;> first | rfl | (simp at h)
  · rfl
  · rfl
  · rfl
  · rfl
  · rfl
  · intro f A g L
    rw [Tm.enc_eq]
    unfold Tm.cc at q
    refine s_cons (s_if (t_cmp (Nat.le_refl 6) (e_tm rfl rfl t.body0 rfl (e_str ⟨_, c_seq _ _, fun hc => ?_, fun hc => ?_⟩))))
    · rw [hc, if_pos rfl] at q
      refine s_cons (s_return (e_tuple (es_cons (e_global (v := .int 4 234) rfl (.int _ _) rfl (es_cons (e_tm rfl rfl t.body1 rfl (es_nil ⟨Nat.le_of_ble_eq_true rfl, ?_⟩)))))))
      exact q
    · rw [hc, if_neg (by decide)] at q
      refine s_nil (s_cons (s_return (e_tuple (es_cons (e_global (v := .int 5 236) rfl (.int _ _) rfl (es_cons (e_tm rfl rfl t.body1 rfl (es_nil ⟨Nat.le_of_ble_eq_true rfl, ?_⟩))))))))
      exact q
theorem g_cc : nsIn (KK w) mainGlobals "constant_cell" = some (some (.ref 49)) := by kernel_rfl
theorem k_cc : keepIn (KK w) (.ref 49) = true := by kernel_rfl
theorem e_cc {e : PySem.Expr} {p pos : Pos} {Q : AV → Hp → Prop} (hx : f.env.kindOf "constant_cell" = some .globalImplicit) (hr : 7 ≤ f.r) (h : E1 prog w f e ε H fun v H₁ => ∃ t : Tm, v = t.enc ∧ Q t.cc H₁)
    (he : eval (.Call (.Name "constant_cell" p) [e] [] pos) f.env = (do let v ← eval (.Name "constant_cell" p) f.env; callWith pos v [] (backTo pos (starEach [e] f.env)) (backToKw pos (keywordEach [] f.env))) := by rfl)
    (h1 : starEach [e] f.env = (false, eval e f.env) :: starEach [] f.env := by rfl) (h2 : (backTo pos (starEach [] f.env)).any (·.1) = false := by rfl) : E1 prog w f (.Call (.Name "constant_cell" p) [e] [] pos) ε H Q :=
  e_call g_cc k_cc hx (es_cons (h.mono fun v H₁ ⟨t, e1, q⟩ => es_nil (by subst e1; exact cv_def (cc_ok q) hr)) h1) (by decide) he h1 h2
theorem me_mvar : methOk (KK w) 265 "match_variable" 140 = true := by kernel_rfl
theorem me_svar : methOk (KK w) 265 "set_variable" 187 = true := by kernel_rfl
theorem mvar_ok {k : Nat} {Q : AV → Hp → Prop} (K : M.Ok P H) (hk : P.dom k = true) (hl : σ.code.length < 1000000) (q : Q .none (M.put H (σ.mvar P k))) : Ct prog w 140 8 [.ref M.x, .int k] (M.put H σ) Q := by
  have hk5 : k < 5 := by obtain ⟨_, _, _, _, _, _, _, _, _, h⟩ := K.plan; exact (h k hk).1
  refine ct_def (fa := 140) (n := 7) rfl ?_ ?_ ?_ ?_ ?_ ?_ ?_ ?_
  · rfl
  · intro vs h
    rcases vs with _ | ⟨a, _ | ⟨b, _ | _⟩⟩ <;> first | rfl | (simp at h)
  · rfl
  · rfl
  · rfl
  · rfl
  · rfl
  · intro f A g L
    unfold Sg.mvar at q
    refine s_cons (s_if (t_notSeen K rfl rfl rfl rfl (Nat.le_of_ble_eq_true rfl) ⟨fun hc => ?_, fun hc => ?_⟩))
    · rw [hc, if_pos rfl] at q
      refine s_cons (s_see K rfl rfl rfl rfl hk5 ?_)
      refine s_cons (s_emit K rfl rfl (Nat.le_of_ble_eq_true rfl) (e_tuple (es_cons (e_str (es_cons (e_place K rfl rfl (Nat.le_of_ble_eq_true rfl) (e_local rfl rfl ⟨_, rfl, hk, rfl, es_nil ⟨Nat.le_of_ble_eq_true rfl, _, rfl, hl, ?_⟩⟩)))))))
      exact s_nil (s_nil q)
    · rw [hc, if_neg (by decide)] at q
      refine s_cons (s_if (t_inLocal K rfl rfl rfl rfl (Nat.le_of_ble_eq_true rfl) ⟨fun hc => ?_, fun hc => ?_⟩))
      · rw [hc, if_pos rfl] at q
        refine s_cons (s_emit K rfl rfl (Nat.le_of_ble_eq_true rfl) (e_tuple (es_cons (e_str (es_cons (e_place K rfl rfl (Nat.le_of_ble_eq_true rfl) (e_local rfl rfl ⟨_, rfl, hk, rfl, es_nil ⟨Nat.le_of_ble_eq_true rfl, _, rfl, hl, ?_⟩⟩)))))))
        exact s_nil (s_nil (s_nil q))
      · rw [hc, if_neg (by decide)] at q
        refine s_cons (s_emit K rfl rfl (Nat.le_of_ble_eq_true rfl) (e_tuple (es_cons (e_str (es_cons (e_place K rfl rfl (Nat.le_of_ble_eq_true rfl) (e_local rfl rfl ⟨_, rfl, hk, rfl, es_nil ⟨Nat.le_of_ble_eq_true rfl, _, rfl, hl, ?_⟩⟩)))))))
        exact s_nil (s_nil (s_nil q))
theorem svar_ok {k : Nat} {Q : AV → Hp → Prop} (K : M.Ok P H) (hk : P.dom k = true) (hl : σ.code.length < 1000000) (q : Q .none (M.put H (σ.svar P k))) : Ct prog w 187 8 [.ref M.x, .int k] (M.put H σ) Q := by
  have hk5 : k < 5 := by obtain ⟨_, _, _, _, _, _, _, _, _, h⟩ := K.plan; exact (h k hk).1
  refine ct_def (fa := 187) (n := 7) rfl ?_ ?_ ?_ ?_ ?_ ?_ ?_ ?_
  · rfl
  · intro vs h
    rcases vs with _ | ⟨a, _ | ⟨b, _ | _⟩⟩ <;> first | rfl | (simp at h)
  · rfl
  · rfl
  · rfl
  · rfl
  · rfl
  · intro f A g L
    unfold Sg.svar at q
    refine s_cons (s_if (t_notSeen K rfl rfl rfl rfl (Nat.le_of_ble_eq_true rfl) ⟨fun hc => ?_, fun hc => ?_⟩))
    · rw [hc, if_pos rfl] at q
      refine s_cons (s_see K rfl rfl rfl rfl hk5 ?_)
      refine s_cons (s_emit K rfl rfl (Nat.le_of_ble_eq_true rfl) (e_tuple (es_cons (e_str (es_cons (e_place K rfl rfl (Nat.le_of_ble_eq_true rfl) (e_local rfl rfl ⟨_, rfl, hk, rfl, es_nil ⟨Nat.le_of_ble_eq_true rfl, _, rfl, hl, ?_⟩⟩)))))))
      exact s_nil (s_nil q)
    · rw [hc, if_neg (by decide)] at q
      refine s_cons (s_if (t_inLocal K rfl rfl rfl rfl (Nat.le_of_ble_eq_true rfl) ⟨fun hc => ?_, fun hc => ?_⟩))
      · rw [hc, if_pos rfl] at q
        refine s_cons (s_emit K rfl rfl (Nat.le_of_ble_eq_true rfl) (e_tuple (es_cons (e_str (es_cons (e_place K rfl rfl (Nat.le_of_ble_eq_true rfl) (e_local rfl rfl ⟨_, rfl, hk, rfl, es_nil ⟨Nat.le_of_ble_eq_true rfl, _, rfl, hl, ?_⟩⟩)))))))
        refine s_cons (s_if (t_not (t_val (e_isPerm K rfl rfl (Nat.le_of_ble_eq_true rfl) (e_local rfl rfl ⟨_, rfl, hk, rfl, .inl ⟨_, rfl, fun hc => ?_, fun hc => ?_⟩⟩)))))
        · rw [hc, if_pos rfl] at q
          refine s_cons (s_delL K rfl rfl rfl rfl ?_)
          exact s_nil (s_nil (s_nil (s_nil q)))
        · rw [hc, if_neg (by decide)] at q
          exact s_nil (s_nil (s_nil (s_nil q)))
      · rw [hc, if_neg (by decide)] at q
        refine s_cons (s_emit K rfl rfl (Nat.le_of_ble_eq_true rfl) (e_tuple (es_cons (e_str (es_cons (e_place K rfl rfl (Nat.le_of_ble_eq_true rfl) (e_local rfl rfl ⟨_, rfl, hk, rfl, es_nil ⟨Nat.le_of_ble_eq_true rfl, _, rfl, hl, ?_⟩⟩)))))))
        exact s_nil (s_nil (s_nil q))
end
end Mine
set_option Elab.async false
set_option linter.unusedVariables false
set_option maxRecDepth 100000
namespace Mine
open PySem PySem.W PySem.Calls PySem.Spec PyProof.Rows
structure MA where
  σ : Sg
  nes : List (Tm × AV)
  vo : Nat
noncomputable def maStep (P : Pl) (a : MA) (t : Tm) : MA :=
  if t.isV && P.vd t.var then { a with vo := a.vo + 1 }
  else
    let σ := a.σ.flush "unify_void" a.vo
    if t.isV then ⟨σ.mvar P t.var, a.nes, 0⟩
    else if t.isS then ⟨σ.newT.emit (.tup [.str "unify_variable", reg σ.nxt]), a.nes ++ [(t, reg σ.nxt)], 0⟩
    else ⟨σ.emit (.tup [.str "unify_constant", t.cc]), a.nes, 0⟩
noncomputable def maRun (P : Pl) (σ : Sg) (ts : List Tm) : MA := ts.foldl (maStep P) ⟨σ, [], 0⟩
noncomputable def maOut (P : Pl) (σ : Sg) (ts : List Tm) : Sg := (maRun P σ ts).σ.flush "unify_void" (maRun P σ ts).vo
noncomputable def pr (p : Tm × AV) : AV := .tup [p.1.enc, p.2]
theorem Sg.emit_len (σ : Sg) (d : AV) : (σ.emit d).code.length = σ.code.length + 1 := by simp [Sg.emit]
theorem Sg.newT_len (σ : Sg) : (σ.newT).code.length = σ.code.length := rfl
theorem Sg.see_len (σ : Sg) (k : Nat) : (σ.see k).code.length = σ.code.length := rfl
theorem Sg.addL_len (σ : Sg) (k : Nat) : (σ.addL k).code.length = σ.code.length := rfl
theorem Sg.delL_len (σ : Sg) (k : Nat) : (σ.delL k).code.length = σ.code.length := rfl
theorem Sg.mvar_len (P : Pl) (σ : Sg) (k : Nat) : (σ.mvar P k).code.length = σ.code.length + 1 := by unfold Sg.mvar; split <;> (try split) <;> simp [Sg.emit_len, Sg.see_len]
theorem Sg.svar_len (P : Pl) (σ : Sg) (k : Nat) : (σ.svar P k).code.length = σ.code.length + 1 := by unfold Sg.svar; split <;> (try split) <;> (try split) <;> simp [Sg.emit_len, Sg.see_len, Sg.delL_len]
theorem Sg.flush_len (σ : Sg) (op : Str) (vo : Nat) : (σ.flush op vo).code.length ≤ σ.code.length + 1 := by unfold Sg.flush; split <;> simp [Sg.emit_len]
theorem maStep_len (P : Pl) (a : MA) (t : Tm) : (maStep P a t).σ.code.length ≤ a.σ.code.length + 2 := by
  have h := Sg.flush_len a.σ "unify_void" a.vo
  unfold maStep
  split
  · simp
  · dsimp only
    split
    · simp only [Sg.mvar_len]; omega
    · split <;> simp only [Sg.emit_len, Sg.newT_len] <;> omega
theorem maFold_len (P : Pl) : ∀ (ts : List Tm) (a : MA), (ts.foldl (maStep P) a).σ.code.length ≤ a.σ.code.length + 2 * ts.length
  | [], _ => Nat.le_refl _
  | t :: r, a => by
    have h1 := maStep_len P a t
    have h2 := maFold_len P r (maStep P a t)
    simp only [List.foldl_cons, List.length_cons]
    omega
theorem maRun_len (P : Pl) (σ : Sg) (ts : List Tm) : (maRun P σ ts).σ.code.length ≤ σ.code.length + 2 * ts.length := maFold_len P ts _
theorem maOut_len (P : Pl) (σ : Sg) (ts : List Tm) : (maOut P σ ts).code.length ≤ σ.code.length + 2 * ts.length + 1 := by
  have h1 := maRun_len P σ ts
  have h2 := Sg.flush_len (maRun P σ ts).σ "unify_void" (maRun P σ ts).vo
  unfold maOut
  omega
theorem maStep_vo (P : Pl) (a : MA) (t : Tm) : (maStep P a t).vo ≤ a.vo + 1 := by
  unfold maStep
  split
  · simp
  · dsimp only
    split
    · simp
    · split <;> simp
theorem maFold_nes (P : Pl) : ∀ (ts : List Tm) (a : MA), (ts.foldl (maStep P) a).nes.length ≤ a.nes.length + ts.length
  | [], _ => Nat.le_refl _
  | t :: r, a => by
    have h1 : (maStep P a t).nes.length ≤ a.nes.length + 1 := by
      unfold maStep
      split
      · simp
      · dsimp only
        split
        · simp
        · split <;> simp
    have h2 := maFold_nes P r (maStep P a t)
    simp only [List.foldl_cons, List.length_cons]
    omega
theorem maRun_nes (P : Pl) (σ : Sg) (ts : List Tm) : (maRun P σ ts).nes.length ≤ ts.length := by have := maFold_nes P ts ⟨σ, [], 0⟩; simpa [maRun] using this
theorem take_succ_get {α : Type} {l : List α} {i : Nat} (h : i < l.length) : l.take (i + 1) = l.take i ++ [l[i]] := by
  rw [List.take_add_one, List.getElem?_eq_getElem h]; rfl
theorem maRun_succ (P : Pl) (σ : Sg) {ts : List Tm} {i : Nat} (h : i < ts.length) : maRun P σ (ts.take (i + 1)) = maStep P (maRun P σ (ts.take i)) ts[i] := by
  unfold maRun
  rw [take_succ_get h, List.foldl_append]; rfl
theorem PlanOk.turnL {H : Hp} {pl a : Addr} {P : Pl} {l l' : List AV} (h : PlanOk H pl P) (ha : H a = some (.list l)) : PlanOk (H.put a (.list l')) pl P := by
  obtain ⟨pdx, pfs, inf, d, h1, h2, h3, h4, h5, h6⟩ := h
  have ne : ∀ b ob, H b = some ob → (∀ l, ob ≠ .list l) → H.put a (.list l') b = some ob := fun b ob e k => by
    rw [put_ne]; exact e
    intro z; rw [z, ha] at e; cases e; exact k _ rfl
  refine ⟨pdx, pfs, inf, d, ne _ _ h1 (by intro l h; cases h), ne _ _ h2 (by intro l h; cases h), h3, ne _ _ h4 (by intro l h; cases h), h5, fun k hk => ?_⟩
  obtain ⟨h0, x, adx, afs, a1, a2, a3, a4, a5⟩ := h6 k hk
  exact ⟨h0, x, adx, afs, a1, ne _ _ a2 (by intro l h; cases h), ne _ _ a3 (by intro l h; cases h), a4, a5⟩
theorem Mk.Ok.turnL {M : Mk} {P : Pl} {H : Hp} {σ : Sg} (K : M.Ok P H) {a : Addr} {l : List AV} (h : H a = some (.list l)) (l' : List AV) : M.Ok P (H.put a (.list l')) ∧ (M.put H σ).put a (.list l') = M.put (H.put a (.list l')) σ :=
  K.turn _ h (fun e => by rw [← e, K.x] at h; cases h) (K.plan.turnL h)
theorem getD_map (ts : List Tm) {i : Nat} (h : i < ts.length) : (ts.map Tm.enc).getD i .none = (ts[i]).enc := by
  rw [List.getD_eq_getElem?_getD, List.getElem?_map, List.getElem?_eq_getElem h]; rfl
section
variable {prog : Program} {w : World} {f : Fm} {ε : En} {H : Hp} {M : Mk} {P : Pl} {σ : Sg}
theorem me_margs : methOk (KK w) 265 "match_arguments" 133 = true := by kernel_rfl
theorem margs_ok {ts : List Tm} {wt : Addr} {W : List AV} {Q : AV → Hp → Prop} (K : M.Ok P H) (hw : H wt = some (.list W)) (hW : W.length + ts.length < 1000000) (hd : ∀ t ∈ ts, t.dom P) (hl : σ.code.length + 2 * ts.length + 1 < 1000000)
    (q : Q .none (M.put (H.put wt (.list (W ++ (maRun P σ ts).nes.reverse.map pr))) (maOut P σ ts))) : Ct prog w 133 12 [.ref M.x, .tup (ts.map Tm.enc), .ref wt] (M.put H σ) Q := by
  refine Ct.weak (ct_def (fa := 133) (n := 11) rfl ?_ ?_ ?_ ?_ ?_ ?_ ?_ ?_)
  · rfl
  · intro vs h
    rcases vs with _ | ⟨a, _ | ⟨b, _ | ⟨c, _ | _⟩⟩⟩ <;> first | rfl | (simp at h)
  · rfl
  · rfl
  · rfl
  · rfl
  · rfl
  · intro f A g L
    refine s_cons (s_assign rfl (e_list (es_nil ⟨Nat.le_of_ble_eq_true rfl, fun n hn => ?_⟩)))
    refine s_cons (s_assign rfl (e_int ?_))
    obtain ⟨K0, e0⟩ := K.new (.list []) hn
    rw [e0]
    have hnw : wt ≠ n := fun e => by have := K.sub (σ := σ) _ _ hw; rw [e, hn] at this; cases this
    -- the loop over the arguments
    refine s_cons (s_forTup rfl (e_local rfl rfl ⟨_, rfl, fun i ε H' => ε.get "self" = some (.ref M.x) ∧ ε.get "waiting" = some (.ref wt) ∧ ε.get "nested" = some (.ref n) ∧ ε.get "voids" = some (.int (maRun P σ (ts.take i)).vo) ∧
      H' = M.put (H.put n (.list ((maRun P σ (ts.take i)).nes.map pr))) (maRun P σ (ts.take i)).σ, ⟨rfl, rfl, rfl, rfl, rfl⟩, ?_, ?_⟩))
    · intro i ε H' p hi hh
      refine and5 hh fun h1 h2 h3 h4 hq04 => ?_
      clear hh
      subst hq04
      have hi' : i < ts.length := by simpa using hi
      rw [getD_map ts hi']
      have es := maRun_succ P σ hi'
      have hlen := maRun_len P σ (ts.take i)
      have hnes := maRun_nes P σ (ts.take i)
      have ht := hd _ (List.getElem_mem hi')
      have htl : (ts.take i).length = i := by rw [List.length_take]; omega
      generalize hT : ts[i] = t at *
      generalize ha : maRun P σ (ts.take i) = a at *
      obtain ⟨K1, e1⟩ : M.Ok P (H.put n (.list (a.nes.map pr))) ∧ ∀ τ l, (M.put (H.put n (.list (a.nes.map pr))) τ).put n (.list l) = M.put (H.put n (.list l)) τ := by
        have := K0.turnL (σ := σ) (put_get H n (.list [])) (a.nes.map pr)
        rw [put_put] at this
        refine ⟨this.1, fun τ l => ?_⟩
        have := this.1.turnL (σ := τ) (put_get H n _) l
        rw [put_put] at this
        exact this.2
      rw [Tm.enc_eq]
      have fin : ∀ {τ : Sg} {nes : List (Tm × AV)} {vo : Nat} {ε₁ : En} {H₁ : Hp}, maRun P σ (ts.take (i + 1)) = ⟨τ, nes, vo⟩ → (ε₁.get "self" = some (.ref M.x) ∧ ε₁.get "waiting" = some (.ref wt) ∧ ε₁.get "nested" = some (.ref n) ∧ ε₁.get "voids" = some (.int vo) ∧ H₁ = M.put (H.put n (.list (nes.map pr))) τ) →
          ε₁.get "self" = some (.ref M.x) ∧ ε₁.get "waiting" = some (.ref wt) ∧ ε₁.get "nested" = some (.ref n) ∧ ε₁.get "voids" = some (.int (maRun P σ (ts.take (i + 1))).vo) ∧ H₁ = M.put (H.put n (.list ((maRun P σ (ts.take (i + 1))).nes.map pr))) (maRun P σ (ts.take (i + 1))).σ := fun e a => by rw [e]; exact a
      refine s_cons (s_if (T1.mono (Q := fun b H₁ => b = (t.isV && P.vd t.var) ∧ H₁ = M.put (H.put n (.list (a.nes.map pr))) a.σ) ?_ fun b H₁ ⟨eb, eH⟩ => ⟨fun hb => ?_, fun hb => ?_⟩))
      · refine t_and (t_cmp (Nat.le_of_ble_eq_true rfl) (e_tm rfl rfl t.body0 rfl (e_str ⟨_, c_seq _ _, fun hc => ?_, fun hc => ?_⟩)))
        · rw [Tm.tag_v] at hc; rw [hc]; exact ⟨rfl, rfl⟩
        · rw [Tm.tag_v] at hc
          refine t_and (t_val (e_isVoid K1 h1 rfl (Nat.le_of_ble_eq_true rfl) (e_tm rfl rfl t.body1 rfl ⟨t.var, by rw [Tm.snd_var hc], Tm.dom_var hc ht, rfl, .inl ⟨_, rfl, fun hc2 => ?_, fun hc2 => ?_⟩⟩)))
          · rw [hc, hc2]; exact ⟨rfl, rfl⟩
          · exact t_and0 ⟨by rw [hc, hc2]; rfl, rfl⟩
      · subst eH
        rw [hb] at eb
        refine s_cons (s_augAdd h4 rfl (e_int ⟨_, rfl, ?_⟩))
        refine s_cons (s_continue ?_)
        unfold maStep at es
        rw [← eb, if_pos rfl] at es
        change (_ ∧ _ ∧ _ ∧ _ ∧ _)
        refine fin es ⟨h1, h2, h3, ?_, rfl⟩
        show some (AV.int ((a.vo : Int) + 1)) = some (.int ((a.vo + 1 : Nat) : Int))
        rw [Int.natCast_succ]
      · subst eH
        rw [hb] at eb
        unfold maStep at es
        rw [← eb, if_neg Bool.false_ne_true] at es
        dsimp only at es
        refine s_nil ?_
        have hfl := Sg.flush_len a.σ "unify_void" a.vo
        refine s_cons (S1.mono (Q := fun fv ε₁ H₁ => fv = .next ∧ ε₁.get "self" = some (.ref M.x) ∧ ε₁.get "waiting" = some (.ref wt) ∧ ε₁.get "nested" = some (.ref n) ∧ ε₁.get "voids" = some (.int 0) ∧ ε₁.get "arg" = some (.tup t.body) ∧
          H₁ = M.put (H.put n (.list (a.nes.map pr))) (a.σ.flush "unify_void" a.vo)) ?_ fun fv ε₁ H₁ ⟨e1, g1, g2, g3, g4, g5, e2⟩ => ?_)
        · refine s_if (t_cmp (Nat.le_of_ble_eq_true rfl) (e_local h4 rfl (e_int ⟨_, c_gt _ _, fun hc => ?_, fun hc => ?_⟩)))
          · have hc' : a.vo > 0 := by have := of_decide_eq_true hc; omega
            refine s_cons (s_emit K1 h1 rfl (Nat.le_of_ble_eq_true rfl) (e_tuple (es_cons (e_str (es_cons (e_local h4 rfl (es_nil ⟨Nat.le_of_ble_eq_true rfl, _, rfl, by omega, ?_⟩)))))))
            refine s_cons (s_assign rfl (e_int ?_))
            refine s_nil ⟨rfl, h1, h2, h3, rfl, rfl, ?_⟩
            unfold Sg.flush; rw [if_pos hc']
          · have hc' : ¬ a.vo > 0 := by have := of_decide_eq_false hc; omega
            have e0 : a.vo = 0 := by omega
            refine s_nil ⟨rfl, h1, h2, h3, ?_, rfl, ?_⟩
            · rw [e0] at h4; exact h4
            · unfold Sg.flush; rw [if_neg hc']
        · subst e1 e2
          generalize hσ : a.σ.flush "unify_void" a.vo = τ at *
          refine s_cons (s_if (t_cmp (Nat.le_of_ble_eq_true rfl) (e_tm g5 rfl t.body0 rfl (e_str ⟨_, c_seq _ _, fun hc => ?_, fun hc => ?_⟩))))
          · rw [Tm.tag_v] at hc
            rw [if_pos hc] at es
            refine s_cons (s_expr (e_mcall K1 g1 rfl me_mvar rfl (es_cons (e_tm g5 rfl t.body1 rfl (es_nil ?_)))))
            rw [Tm.snd_var hc]
            refine cv_def (mvar_ok K1 (Tm.dom_var hc ht) (by omega) ⟨rfl, ?_⟩) (Nat.le_of_ble_eq_true rfl)
            exact s_nil (s_nil (fin es ⟨g1, g2, g3, g4, rfl⟩))
          · rw [Tm.tag_v] at hc
            rw [if_neg (by rw [hc]; decide)] at es
            refine s_cons (s_if (t_cmp (Nat.le_of_ble_eq_true rfl) (e_tm g5 rfl t.body0 rfl (e_str ⟨_, c_seq _ _, fun hc => ?_, fun hc => ?_⟩))))
            · rw [Tm.tag_s] at hc
              rw [if_pos hc] at es
              refine s_cons (s_assign rfl (e_newT K1 g1 rfl (Nat.le_of_ble_eq_true rfl) ?_))
              refine s_cons (s_emit K1 g1 rfl (Nat.le_of_ble_eq_true rfl) (e_tuple (es_cons (e_str (es_cons (e_local rfl rfl (es_nil ⟨Nat.le_of_ble_eq_true rfl, _, rfl, by rw [Sg.newT_len]; omega, ?_⟩)))))))
              refine s_cons (s_expr (e_methB (e_local g3 rfl ⟨n, _, rfl, mb_append (K1.sub _ _ (put_get _ _ _)), ?_⟩)))
              refine es_cons (e_tuple (es_cons (e_local g5 rfl (es_cons (e_local rfl rfl (es_nil ⟨Nat.le_of_ble_eq_true rfl, es_nil ?_⟩))))))
              refine cv_append (K1.sub _ _ (put_get _ _ _)) (by rw [List.length_map]; omega) ⟨rfl, ?_⟩
              refine s_nil (s_nil (s_nil (fin es ⟨g1, g2, g3, g4, ?_⟩)))
              rw [e1]
              congr 2
              rw [List.map_append, List.map_singleton]
              unfold pr
              rw [Tm.enc_eq]
            · rw [Tm.tag_s] at hc
              rw [if_neg (by rw [hc]; decide)] at es
              refine s_cons (s_emit K1 g1 rfl (Nat.le_of_ble_eq_true rfl) (e_tuple (es_cons (e_str (es_cons (e_cc rfl (Nat.le_of_ble_eq_true rfl) (e_local g5 rfl ⟨t, by rw [Tm.enc_eq], es_nil ⟨Nat.le_of_ble_eq_true rfl, _, rfl, by omega, ?_⟩⟩)))))))
              exact s_nil (s_nil (s_nil (fin es ⟨g1, g2, g3, g4, rfl⟩)))
    · intro ε H' hh
      refine and5 hh fun h1 h2 h3 h4 hq04 => ?_
      clear hh
      subst hq04
      rw [List.length_map, List.take_length] at h4 ⊢
      have hlen := maRun_len P σ ts
      have hnes := maRun_nes P σ ts
      unfold maOut at q
      generalize maRun P σ ts = a at *
      obtain ⟨K1, e1⟩ : M.Ok P (H.put n (.list (a.nes.map pr))) ∧ True := by
        have := K0.turnL (σ := σ) (put_get H n (.list [])) (a.nes.map pr)
        rw [put_put] at this
        exact ⟨this.1, trivial⟩
      refine s_cons (S1.mono (Q := fun fv ε₁ H₁ => fv = .next ∧ ε₁.get "waiting" = some (.ref wt) ∧ ε₁.get "nested" = some (.ref n) ∧
          H₁ = M.put (H.put n (.list (a.nes.map pr))) (a.σ.flush "unify_void" a.vo)) ?_ fun fv ε₁ H₁ ⟨e1, g2, g3, e2⟩ => ?_)
      · refine s_if (t_cmp (Nat.le_of_ble_eq_true rfl) (e_local h4 rfl (e_int ⟨_, c_gt _ _, fun hc => ?_, fun hc => ?_⟩)))
        · have hc' : a.vo > 0 := by have := of_decide_eq_true hc; omega
          refine s_cons (s_emit K1 h1 rfl (Nat.le_of_ble_eq_true rfl) (e_tuple (es_cons (e_str (es_cons (e_local h4 rfl (es_nil ⟨Nat.le_of_ble_eq_true rfl, _, rfl, by omega, ?_⟩)))))))
          refine s_nil ⟨rfl, h2, h3, ?_⟩
          unfold Sg.flush; rw [if_pos hc']
        · have hc' : ¬ a.vo > 0 := by have := of_decide_eq_false hc; omega
          refine s_nil ⟨rfl, h2, h3, ?_⟩
          unfold Sg.flush; rw [if_neg hc']
      · subst e1 e2
        generalize a.σ.flush "unify_void" a.vo = τ at *
        -- the nested ones go over
        have kk : ∀ l l' : List AV, M.Ok P ((H.put n (.list l)).put wt (.list l')) ∧ (∀ k, (M.put ((H.put n (.list l)).put wt (.list l')) τ).put n (.list k) = M.put ((H.put n (.list k)).put wt (.list l')) τ) ∧ (∀ k, (M.put ((H.put n (.list l)).put wt (.list l')) τ).put wt (.list k) = M.put ((H.put n (.list l)).put wt (.list k)) τ) := fun l l' => by
          have A1 := (K0.turnL (σ := σ) (put_get H n (.list [])) l).1
          rw [put_put] at A1
          have A2 := (A1.turnL (σ := σ) (a := wt) (l := W) (by rw [put_ne hnw]; exact hw) l').1
          refine ⟨A2, fun k => ?_, fun k => ?_⟩
          · have := (A2.turnL (σ := τ) (a := n) (l := l) (by rw [put_ne hnw.symm, put_get]) k).2
            rw [this, put_comm hnw, put_put]
          · have := (A2.turnL (σ := τ) (a := wt) (l := l') (put_get _ _ _) k).2
            rw [this, put_put]
        refine s_cons (s_while (fun m ε H' => m ≤ a.nes.length ∧ ε.get "waiting" = some (.ref wt) ∧ ε.get "nested" = some (.ref n) ∧ H' = M.put ((H.put n (.list ((a.nes.take m).map pr))).put wt (.list (W ++ (a.nes.drop m).reverse.map pr))) τ) a.nes.length ⟨Nat.le_refl _, g2, g3, ?_⟩ ?_)
        · rw [List.take_length, List.drop_length]
          congr 1
          rw [List.reverse_nil, List.map_nil, List.append_nil, put_same (a := wt)]
          rw [put_ne hnw]; exact hw
        · intro m ε H' hh
          refine and4 hh fun hm g2 g3 hq03 => ?_
          clear hh
          subst hq03
          obtain ⟨K2, f1, f2⟩ := kk ((a.nes.take m).map pr) (W ++ (a.nes.drop m).reverse.map pr)
          have hn1 : M.put ((H.put n (.list ((a.nes.take m).map pr))).put wt (.list (W ++ (a.nes.drop m).reverse.map pr))) τ n = some (.list ((a.nes.take m).map pr)) := K2.sub _ _ (by rw [put_ne hnw.symm, put_get])
          refine t_cmp (Nat.le_of_ble_eq_true rfl) (e_callB (by kernel_rfl) rfl (by decide) rfl (es_cons (e_local g3 rfl (es_nil (cv_len hn1 (by rw [List.length_map, List.length_take]; omega) (e_int ⟨_, c_gt _ _, fun hc => ?_, fun hc => ?_⟩))))))
          · have hm0 : 0 < m := by
              have := of_decide_eq_true hc
              rw [List.length_map, List.length_take] at this
              omega
            obtain ⟨m, rfl⟩ : ∃ k, m = k + 1 := ⟨m - 1, by omega⟩
            have e3 : (a.nes.take (m + 1)).map pr = (a.nes.take m).map pr ++ [pr (a.nes[m]'(by omega))] := by rw [take_succ_get (by omega), List.map_append]; rfl
            have e4 : (a.nes.drop m).reverse.map pr = (a.nes.drop (m + 1)).reverse.map pr ++ [pr (a.nes[m]'(by omega))] := by rw [← List.getElem_cons_drop (by omega : m < a.nes.length), List.reverse_cons, List.map_append]; rfl
            have hlw : (W ++ (a.nes.drop (m + 1)).reverse.map pr).length < 1000000 := by simp; omega
            have hw1 : ∀ l, M.put ((H.put n (.list l)).put wt (.list (W ++ (a.nes.drop (m + 1)).reverse.map pr))) τ wt = some (.list (W ++ (a.nes.drop (m + 1)).reverse.map pr)) := fun l => (kk l _).1.sub _ _ (put_get _ _ _)
            rw [e3] at hn1 f1 f2 ⊢
            refine s_cons (s_expr (e_methB (e_local g2 rfl ⟨wt, _, rfl, mb_append (hw1 _), ?_⟩)))
            refine es_cons (e_methB0 (e_local g3 rfl ⟨n, _, rfl, mb_pop hn1, ?_⟩))
            refine cv_pop hn1 (by rw [List.length_map, List.length_take]; omega) (es_nil ?_)
            rw [f1]
            refine cv_append (hw1 _) hlw ⟨rfl, ?_⟩
            rw [(kk _ _).2.2]
            refine s_nil ⟨m, by omega, by omega, g2, g3, ?_⟩
            rw [e4, List.append_assoc]
          · have hm0 : m = 0 := by
              have := of_decide_eq_false hc
              rw [List.length_map, List.length_take] at this
              omega
            subst hm0
            refine s_nil ⟨_, ?_, q⟩
            rw [List.drop_zero, List.take_zero]
            refine M.subPut ?_ τ
            rw [put_comm hnw.symm]
            refine Sub.fresh ?_
            rw [put_ne hnw.symm]
            exact K.sub.none hn
end
end Mine
set_option Elab.async false
set_option linter.unusedVariables false
set_option maxRecDepth 100000
namespace Mine
open PySem PySem.W PySem.Calls PySem.Spec PyProof.Rows
noncomputable def getI (t : Tm) (r : AV) : AV := if t.snd == 0 then .tup [.str "get_list", r] else .tup [.str "get_structure", .int t.snd, r]
noncomputable def matchRun (P : Pl) : Nat → Sg → List (Tm × AV) → Sg
  | 0, σ, _ => σ
  | _ + 1, σ, [] => σ
  | n + 1, σ, p :: stk => matchRun P n (maOut P (σ.emit (getI p.1 p.2)) p.1.args) ((maRun P (σ.emit (getI p.1 p.2)) p.1.args).nes ++ stk)
noncomputable def ssum (l : List Tm) : Nat := (l.map Tm.size).sum
theorem ssum_cons (t : Tm) (l : List Tm) : ssum (t :: l) = t.size + ssum l := by simp [ssum]
theorem ssum_append (l k : List Tm) : ssum (l ++ k) = ssum l + ssum k := by simp [ssum]
theorem Tm.size_args {t : Tm} (h : t.isS = true) : t.size = ssum t.args + 1 := by
  cases t with
  | s1 a => simp [Tm.size, Tm.args, ssum]
  | s2 p a b => simp [Tm.size, Tm.args, ssum]
  | _ => cases h
theorem Tm.args_len (t : Tm) : t.args.length ≤ 2 := by cases t <;> simp [Tm.args]
theorem Tm.size_pos (t : Tm) : 0 < t.size := by cases t <;> simp [Tm.size]
theorem maStep_sum (P : Pl) (a : MA) (t : Tm) : ssum ((maStep P a t).nes.map (·.1)) ≤ ssum (a.nes.map (·.1)) + t.size := by
  unfold maStep
  split
  · simp
  · dsimp only
    split
    · simp
    · split
      · rw [List.map_append, ssum_append]; simp [ssum]
      · simp
theorem maFold_sum (P : Pl) : ∀ (ts : List Tm) (a : MA), ssum ((ts.foldl (maStep P) a).nes.map (·.1)) ≤ ssum (a.nes.map (·.1)) + ssum ts
  | [], _ => by simp [ssum]
  | t :: r, a => by
    have h1 := maStep_sum P a t
    have h2 := maFold_sum P r (maStep P a t)
    rw [List.foldl_cons, ssum_cons]
    omega
theorem maRun_sum (P : Pl) (σ : Sg) (ts : List Tm) : ssum ((maRun P σ ts).nes.map (·.1)) ≤ ssum ts := by
  have := maFold_sum P ts ⟨σ, [], 0⟩
  simpa [maRun, ssum] using this
theorem maStep_in (P : Pl) (a : MA) (t : Tm) : ∀ p ∈ (maStep P a t).nes, p ∈ a.nes ∨ (p.1 = t ∧ t.isS = true) := by
  unfold maStep
  split
  · intro p hp; exact .inl hp
  · dsimp only
    split
    · intro p hp; exact .inl hp
    · split
      · rename_i h
        intro p hp
        rcases List.mem_append.mp hp with h1 | h1
        · exact .inl h1
        · rw [List.mem_singleton.mp h1]; exact .inr ⟨rfl, h⟩
      · intro p hp; exact .inl hp
theorem maFold_in (P : Pl) : ∀ (ts : List Tm) (a : MA), ∀ p ∈ (ts.foldl (maStep P) a).nes, p ∈ a.nes ∨ (p.1 ∈ ts ∧ p.1.isS = true)
  | [], _, p, hp => .inl hp
  | t :: r, a, p, hp => by
    rcases maFold_in P r (maStep P a t) p hp with h | ⟨h, h'⟩
    · rcases maStep_in P a t p h with h | ⟨h, h'⟩
      · exact .inl h
      · exact .inr ⟨by rw [h]; exact .head _, by rw [h]; exact h'⟩
    · exact .inr ⟨.tail _ h, h'⟩
theorem maRun_in (P : Pl) (σ : Sg) (ts : List Tm) : ∀ p ∈ (maRun P σ ts).nes, p.1 ∈ ts ∧ p.1.isS = true := fun p hp => by
  rcases maFold_in P ts ⟨σ, [], 0⟩ p hp with h | h
  · cases h
  · exact h
theorem matchRun_nil (P : Pl) (n : Nat) (σ : Sg) : matchRun P n σ [] = σ := by cases n <;> rfl
theorem matchRun_len (P : Pl) : ∀ (n : Nat) (σ : Sg) (stk : List (Tm × AV)), (matchRun P n σ stk).code.length ≤ σ.code.length + 6 * n
  | 0, σ, _ => Nat.le_refl _
  | n + 1, σ, [] => by unfold matchRun; omega
  | n + 1, σ, p :: stk => by
    have h1 := matchRun_len P n (maOut P (σ.emit (getI p.1 p.2)) p.1.args) ((maRun P (σ.emit (getI p.1 p.2)) p.1.args).nes ++ stk)
    have h2 := maOut_len P (σ.emit (getI p.1 p.2)) p.1.args
    have h3 := p.1.args_len
    rw [Sg.emit_len] at h2
    unfold matchRun
    omega
section
variable {prog : Program} {w : World} {f : Fm} {ε : En} {H : Hp} {M : Mk} {P : Pl} {σ : Sg}
theorem me_match : methOk (KK w) 265 "match" 126 = true := by kernel_rfl
theorem match_ok {t : Tm} {r : AV} {Q : AV → Hp → Prop} (K : M.Ok P H) (ht : t.isS = true) (hd : t.dom P) (hl : σ.code.length + 6 * t.size + 10 < 1000000) (hz : t.size < 1000)
    (q : Q .none (M.put H (matchRun P t.size σ [(t, r)]))) : Ct prog w 126 13 [.ref M.x, t.enc, r] (M.put H σ) Q := by
  refine Ct.weak (ct_def (fa := 126) (n := 12) rfl ?_ ?_ ?_ ?_ ?_ ?_ ?_ ?_)
  · rfl
  · intro vs h
    rcases vs with _ | ⟨a, _ | ⟨b, _ | ⟨c, _ | _⟩⟩⟩ <;> first | rfl | (simp at h)
  · rfl
  · rfl
  · rfl
  · rfl
  · rfl
  · intro f A g L
    refine s_cons (s_assign rfl (e_list (es_cons (e_tuple (es_cons (e_local rfl rfl (es_cons (e_local rfl rfl (es_nil ⟨Nat.le_of_ble_eq_true rfl, es_nil ⟨Nat.le_of_ble_eq_true rfl, fun wt hn => ?_⟩⟩)))))))))
    obtain ⟨K0, e0⟩ := K.new (.list [pr (t, r)]) hn
    have e00 : (M.put H σ).put wt (.list [AV.tup [t.enc, r]]) = M.put (H.put wt (.list [pr (t, r)])) σ := e0
    rw [e00]
    generalize hfin : matchRun P t.size σ [(t, r)] = fin at q
    have kk : ∀ l τ, M.Ok P (H.put wt (.list l)) ∧ ∀ k, (M.put (H.put wt (.list l)) τ).put wt (.list k) = M.put (H.put wt (.list k)) τ := fun l τ => by
      have A1 := (K0.turnL (σ := σ) (put_get H wt _) l).1
      rw [put_put] at A1
      refine ⟨A1, fun k => ?_⟩
      have := (A1.turnL (σ := τ) (put_get H wt _) k).2
      rw [put_put] at this
      exact this
    refine s_cons (s_while (fun m ε H' => ∃ σ' stk, ssum (stk.map (·.1)) ≤ m ∧ m < 1000 ∧ (∀ p ∈ stk, p.1.isS = true ∧ p.1.dom P) ∧ ε.get "self" = some (.ref M.x) ∧ ε.get "waiting" = some (.ref wt) ∧
      H' = M.put (H.put wt (.list (stk.reverse.map pr))) σ' ∧ matchRun P m σ' stk = fin ∧ σ'.code.length + 6 * m + 10 < 1000000) t.size ⟨σ, [(t, r)], by simp [ssum], hz, by intro p hp; rw [List.mem_singleton.mp hp]; exact ⟨ht, hd⟩, rfl, rfl, rfl, hfin, hl⟩ ?_)
    intro m ε H' hh
    refine Exists.elim hh fun σ' hh1 => Exists.elim hh1 fun stk hh2 => and8 hh2 fun hs hm hp h1 h2 hq05 hf hb => ?_
    clear hh2 hh1 hh
    subst hq05
    have K1 := (kk (stk.reverse.map pr) σ').1
    have hw1 : M.put (H.put wt (.list (stk.reverse.map pr))) σ' wt = some (.list (stk.reverse.map pr)) := K1.sub _ _ (put_get _ _ _)
    have hlen : stk.length ≤ m := by
      refine Nat.le_trans ?_ hs
      clear hp hf hs hw1 K1
      induction stk with
      | nil => exact Nat.zero_le _
      | cons p r ih => have := p.1.size_pos; rw [List.map_cons, ssum_cons, List.length_cons]; omega
    refine t_cmp (Nat.le_of_ble_eq_true rfl) (e_callB (by kernel_rfl) rfl (by decide) rfl (es_cons (e_local h2 rfl (es_nil (cv_len hw1 (by simp; omega) (e_int ⟨_, c_gt _ _, fun hc => ?_, fun hc => ?_⟩))))))
    · rcases stk with _ | ⟨⟨u, r'⟩, stk⟩
      · simp at hc
      obtain ⟨hu, hud⟩ := hp _ (.head _)
      dsimp only at hu hud
      rw [List.map_cons, ssum_cons] at hs
      dsimp only at hs
      have hsz := Tm.size_args hu
      obtain ⟨m, rfl⟩ : ∃ k, m = k + 1 := ⟨m - 1, by omega⟩
      unfold matchRun at hf
      dsimp only at hf
      have e3 : ((u, r') :: stk).reverse.map pr = stk.reverse.map pr ++ [pr (u, r')] := by rw [List.reverse_cons, List.map_append]; rfl
      rw [e3] at hw1 ⊢
      refine s_cons (s_pair rfl rfl (e_methB0 (e_local h2 rfl ⟨wt, _, rfl, mb_pop hw1, cv_pop hw1 (by simp at hlen ⊢; omega) ⟨_, _, rfl, ?_⟩⟩)))
      rw [(kk _ _).2]
      have K2 := (kk (stk.reverse.map pr) σ').1
      rw [Tm.enc_eq]
      have hal := u.args_len
      refine s_cons (S1.mono (Q := fun fv ε₁ H₁ => fv = .next ∧ ε₁.get "self" = some (.ref M.x) ∧ ε₁.get "waiting" = some (.ref wt) ∧ ε₁.get "node" = some (.tup u.body) ∧
          H₁ = M.put (H.put wt (.list (stk.reverse.map pr))) (σ'.emit (getI u r'))) ?_ fun fv ε₁ H₁ ⟨e1, g1, g2, g3, e2⟩ => ?_)
      · refine s_if (t_cmp (Nat.le_of_ble_eq_true rfl) (e_tm rfl rfl u.body1 rfl (e_global (v := .int 0 194) (by kernel_rfl) (.int _ _) rfl ⟨_, c_eq _ _, fun hc => ?_, fun hc => ?_⟩)))
        · refine s_cons (s_emit K2 h1 rfl (Nat.le_of_ble_eq_true rfl) (e_tuple (es_cons (e_str (es_cons (e_local rfl rfl (es_nil ⟨Nat.le_of_ble_eq_true rfl, _, rfl, by omega, ?_⟩)))))))
          refine s_nil ⟨rfl, h1, h2, rfl, ?_⟩
          unfold getI; rw [if_pos hc]
        · refine s_cons (s_emit K2 h1 rfl (Nat.le_of_ble_eq_true rfl) (e_tuple (es_cons (e_str (es_cons (e_tm rfl rfl u.body1 rfl (es_cons (e_local rfl rfl (es_nil ⟨Nat.le_of_ble_eq_true rfl, _, rfl, by omega, ?_⟩)))))))))
          refine s_nil ⟨rfl, h1, h2, rfl, ?_⟩
          unfold getI; rw [if_neg (by rw [hc]; decide)]
      · subst e1 e2
        refine s_cons (s_expr (e_mcall K2 g1 rfl me_margs rfl (es_cons (e_tm g3 rfl (Tm.body2 hu) rfl (es_cons (e_local g2 rfl (es_nil ?_)))))))
        have hlm := Sg.emit_len σ' (getI u r')
        refine cv_def (margs_ok K2 (put_get _ _ _) (by simp at hlen ⊢; omega) (fun x hx => Tm.dom_args hud hx) (by omega) ⟨rfl, ?_⟩) (Nat.le_of_ble_eq_true rfl)
        rw [put_put]
        have ho := maOut_len P (σ'.emit (getI u r')) u.args
        have hsm := maRun_sum P (σ'.emit (getI u r')) u.args
        refine s_nil ⟨m, Nat.lt_succ_self _, _, _, ?_, by omega, ?_, g1, g2, ?_, hf, by omega⟩
        · rw [List.map_append, ssum_append]; omega
        · intro p hp'
          rcases List.mem_append.mp hp' with h | h
          · obtain ⟨a1, a2⟩ := maRun_in _ _ _ _ h
            exact ⟨a2, Tm.dom_args hud a1⟩
          · exact hp _ (.tail _ h)
        · rw [List.reverse_append, List.map_append]
    · have : stk = [] := by
        cases stk with
        | nil => rfl
        | cons p r => simp at hc
      subst this
      rw [matchRun_nil] at hf
      subst hf
      exact s_nil ⟨_, M.subPut (Sub.fresh (K.sub.none hn)) _, q⟩
end
end Mine
set_option Elab.async false
set_option linter.unusedVariables false
set_option maxRecDepth 100000
namespace Mine
open PySem PySem.W PySem.Calls PySem.Spec PyProof.Rows
noncomputable def headArg (P : Pl) (σ : Sg) (t : Tm) (r : AV) : Sg :=
  if t.isV then
    if P.vd t.var then σ
    else if σ.seen t.var then σ.emit (.tup [.str "get_value", P.plc t.var, r])
    else ((σ.see t.var).addL t.var).emit (.tup [.str "get_variable", P.plc t.var, r])
  else if t.isS then matchRun P t.size σ [(t, r)]
  else σ.emit (.tup [.str "get_constant", t.cc, r])
theorem headArg_len (P : Pl) (σ : Sg) (t : Tm) (r : AV) : (headArg P σ t r).code.length ≤ σ.code.length + 6 * t.size := by
  have := t.size_pos
  have h := matchRun_len P t.size σ [(t, r)]
  unfold headArg
  split
  · split
    · omega
    · split <;> simp only [Sg.emit_len, Sg.see_len, Sg.addL_len] <;> omega
  · split
    · exact h
    · simp only [Sg.emit_len]; omega
inductive Pc where
  | tm (t : Tm)
  | rg (n : Int)
noncomputable def Pc.enc : Pc → AV
  | .tm t => t.enc
  | .rg n => reg n
noncomputable def Pc.tag : Pc → Str
  | .tm t => t.tag
  | .rg _ => "t"
noncomputable def Pc.snd : Pc → Int
  | .tm t => t.snd
  | .rg n => n
noncomputable def Pc.body : Pc → List AV
  | .tm t => t.body
  | .rg n => [.str "t", .int n]
theorem Pc.enc_eq (p : Pc) : p.enc = .tup p.body := by cases p with
  | tm t => exact t.enc_eq
  | rg n => rfl
theorem Pc.body0 (p : Pc) : p.body[0]? = some (.str p.tag) := by cases p with
  | tm t => exact t.body0
  | rg n => rfl
theorem Pc.body1 (p : Pc) : p.body[1]? = some (.int p.snd) := by cases p with
  | tm t => exact t.body1
  | rg n => rfl
noncomputable def Pc.isV : Pc → Bool
  | .tm t => t.isV
  | .rg _ => false
noncomputable def Pc.isR : Pc → Bool
  | .tm _ => false
  | .rg _ => true
noncomputable def Pc.var : Pc → Nat
  | .tm t => t.var
  | .rg _ => 0
noncomputable def Pc.cc : Pc → AV
  | .tm t => t.cc
  | .rg _ => .none
theorem Pc.tag_v (p : Pc) : (p.tag == ("v" : Str)) = p.isV := by cases p with
  | tm t => exact t.tag_v
  | rg n => rfl
theorem Pc.tag_t (p : Pc) : (p.tag == ("t" : Str)) = p.isR := by cases p with
  | tm t => cases t <;> rfl
  | rg n => rfl
theorem Pc.snd_var {p : Pc} (h : p.isV = true) : p.snd = (p.var : Int) := by cases p with
  | tm t => exact t.snd_var h
  | rg n => cases h
noncomputable def Pc.dom (P : Pl) : Pc → Prop
  | .tm t => t.dom P
  | .rg _ => True
theorem Pc.dom_var {P : Pl} {p : Pc} (h : p.isV = true) (d : p.dom P) : P.dom p.var = true := by cases p with
  | tm t => exact t.dom_var h d
  | rg n => cases h
structure SA where
  σ : Sg
  vo : Nat
noncomputable def saStep (P : Pl) (a : SA) (p : Pc) : SA :=
  if p.isV && P.vd p.var then { a with vo := a.vo + 1 }
  else
    let σ := a.σ.flush "set_void" a.vo
    if p.isV then ⟨σ.svar P p.var, 0⟩
    else if p.isR then ⟨σ.emit (.tup [.str "set_value", p.enc]), 0⟩
    else ⟨σ.emit (.tup [.str "set_constant", p.cc]), 0⟩
noncomputable def saRun (P : Pl) (σ : Sg) (ps : List Pc) : SA := ps.foldl (saStep P) ⟨σ, 0⟩
noncomputable def saOut (P : Pl) (σ : Sg) (ps : List Pc) : Sg := (saRun P σ ps).σ.flush "set_void" (saRun P σ ps).vo
theorem saStep_len (P : Pl) (a : SA) (p : Pc) : (saStep P a p).σ.code.length ≤ a.σ.code.length + 2 := by
  have h := Sg.flush_len a.σ "set_void" a.vo
  unfold saStep
  split
  · simp
  · dsimp only
    split
    · simp only [Sg.svar_len]; omega
    · split <;> simp only [Sg.emit_len] <;> omega
theorem saFold_len (P : Pl) : ∀ (ts : List Pc) (a : SA), (ts.foldl (saStep P) a).σ.code.length ≤ a.σ.code.length + 2 * ts.length
  | [], _ => Nat.le_refl _
  | t :: r, a => by
    have h1 := saStep_len P a t
    have h2 := saFold_len P r (saStep P a t)
    simp only [List.foldl_cons, List.length_cons]
    omega
theorem saRun_len (P : Pl) (σ : Sg) (ts : List Pc) : (saRun P σ ts).σ.code.length ≤ σ.code.length + 2 * ts.length := saFold_len P ts _
theorem saOut_len (P : Pl) (σ : Sg) (ts : List Pc) : (saOut P σ ts).code.length ≤ σ.code.length + 2 * ts.length + 1 := by
  have h1 := saRun_len P σ ts
  have h2 := Sg.flush_len (saRun P σ ts).σ "set_void" (saRun P σ ts).vo
  unfold saOut
  omega
theorem saRun_succ (P : Pl) (σ : Sg) {ts : List Pc} {i : Nat} (h : i < ts.length) : saRun P σ (ts.take (i + 1)) = saStep P (saRun P σ (ts.take i)) ts[i] := by
  unfold saRun
  rw [take_succ_get h, List.foldl_append]; rfl
theorem getD_mapP (ts : List Pc) {i : Nat} (h : i < ts.length) : (ts.map Pc.enc).getD i .none = (ts[i]).enc := by
  rw [List.getD_eq_getElem?_getD, List.getElem?_map, List.getElem?_eq_getElem h]; rfl
section
variable {prog : Program} {w : World} {f : Fm} {ε : En} {H : Hp} {M : Mk} {P : Pl} {σ : Sg}
theorem me_head : methOk (KK w) 265 "head_argument" 119 = true := by kernel_rfl
theorem me_sargs : methOk (KK w) 265 "set_arguments" 180 = true := by kernel_rfl
theorem head_ok {t : Tm} {r : AV} {Q : AV → Hp → Prop} (K : M.Ok P H) (hd : t.dom P) (hl : σ.code.length + 6 * t.size + 10 < 1000000) (hz : t.size < 1000)
    (q : Q .none (M.put H (headArg P σ t r))) : Ct prog w 119 15 [.ref M.x, t.enc, r] (M.put H σ) Q := by
  have hk5 : ∀ k, P.dom k = true → k < 5 := by obtain ⟨_, _, _, _, _, _, _, _, _, h⟩ := K.plan; exact fun k hk => (h k hk).1
  refine ct_def (fa := 119) (n := 14) rfl ?_ ?_ ?_ ?_ ?_ ?_ ?_ ?_
  · rfl
  · intro vs h
    rcases vs with _ | ⟨a, _ | ⟨b, _ | ⟨c, _ | _⟩⟩⟩ <;> first | rfl | (simp at h)
  · rfl
  · rfl
  · rfl
  · rfl
  · rfl
  · intro f A g L
    unfold headArg at q
    have he := t.enc_eq
    refine s_cons (s_if (t_cmp (Nat.le_of_ble_eq_true rfl) (e_tm (l := t.body) (by rw [he]; rfl) rfl t.body0 rfl (e_str ⟨_, c_seq _ _, fun hc => ?_, fun hc => ?_⟩))))
    · rw [Tm.tag_v] at hc
      rw [if_pos hc] at q
      have hdv := Tm.dom_var hc hd
      refine s_cons (s_assign rfl (e_tm (l := t.body) (by rw [he]; rfl) rfl t.body1 rfl ?_))
      rw [Tm.snd_var hc]
      refine s_cons (s_if (t_val (e_isVoid K rfl rfl (Nat.le_of_ble_eq_true rfl) (e_local rfl rfl ⟨t.var, rfl, hdv, rfl, .inl ⟨_, rfl, fun hc => ?_, fun hc => ?_⟩⟩))))
      · rw [if_pos hc] at q
        exact s_cons (s_return0 q)
      · rw [if_neg (by rw [hc]; decide)] at q
        refine s_nil (s_cons (s_if (t_inSeen K rfl rfl rfl rfl (Nat.le_of_ble_eq_true rfl) ⟨fun hc => ?_, fun hc => ?_⟩)))
        · rw [if_pos hc] at q
          refine s_cons (s_emit K rfl rfl (Nat.le_of_ble_eq_true rfl) (e_tuple (es_cons (e_str (es_cons (e_place K rfl rfl (Nat.le_of_ble_eq_true rfl) (e_local rfl rfl ⟨_, rfl, hdv, rfl, es_cons (e_local rfl rfl (es_nil ⟨Nat.le_of_ble_eq_true rfl, _, rfl, by omega, ?_⟩))⟩)))))))
          exact s_nil (s_nil (s_nil q))
        · rw [if_neg (by rw [hc]; decide)] at q
          refine s_cons (s_see K rfl rfl rfl rfl (hk5 _ hdv) ?_)
          refine s_cons (s_addL K rfl rfl rfl rfl (hk5 _ hdv) ?_)
          refine s_cons (s_emit K rfl rfl (Nat.le_of_ble_eq_true rfl) (e_tuple (es_cons (e_str (es_cons (e_place K rfl rfl (Nat.le_of_ble_eq_true rfl) (e_local rfl rfl ⟨_, rfl, hdv, rfl, es_cons (e_local rfl rfl (es_nil ⟨Nat.le_of_ble_eq_true rfl, _, rfl, by show σ.code.length < _; omega, ?_⟩))⟩)))))))
          exact s_nil (s_nil (s_nil q))
    · rw [Tm.tag_v] at hc
      rw [if_neg (by rw [hc]; decide)] at q
      refine s_cons (s_if (t_cmp (Nat.le_of_ble_eq_true rfl) (e_tm (l := t.body) (by rw [he]; rfl) rfl t.body0 rfl (e_str ⟨_, c_seq _ _, fun hc => ?_, fun hc => ?_⟩))))
      · rw [Tm.tag_s] at hc
        rw [if_pos hc] at q
        refine s_cons (s_expr (e_mcall K rfl rfl me_match rfl (es_cons (e_local rfl rfl (es_cons (e_local rfl rfl (es_nil ?_)))))))
        refine cv_def (match_ok K hc hd hl hz ⟨rfl, ?_⟩) (Nat.le_of_ble_eq_true rfl)
        exact s_nil (s_nil (s_nil q))
      · rw [Tm.tag_s] at hc
        rw [if_neg (by rw [hc]; decide)] at q
        refine s_cons (s_emit K rfl rfl (Nat.le_of_ble_eq_true rfl) (e_tuple (es_cons (e_str (es_cons (e_cc rfl (Nat.le_of_ble_eq_true rfl) (e_local rfl rfl ⟨t, rfl, es_cons (e_local rfl rfl (es_nil ⟨Nat.le_of_ble_eq_true rfl, _, rfl, by omega, ?_⟩))⟩)))))))
        exact s_nil (s_nil (s_nil q))
theorem sargs_ok {ps : List Pc} {pa : Addr} {Q : AV → Hp → Prop} (K : M.Ok P H) (hp : H pa = some (.list (ps.map Pc.enc))) (hd : ∀ p ∈ ps, p.dom P) (hs : ∀ t, Pc.tm t ∈ ps → t.isS = false) (hz : ps.length < 1000) (hl : σ.code.length + 2 * ps.length + 1 < 1000000)
    (q : Q .none (M.put H (saOut P σ ps))) : Ct prog w 180 12 [.ref M.x, .ref pa] (M.put H σ) Q := by
  refine ct_def (fa := 180) (n := 11) rfl ?_ ?_ ?_ ?_ ?_ ?_ ?_ ?_
  · rfl
  · intro vs h
    rcases vs with _ | ⟨a, _ | ⟨b, _ | _⟩⟩ <;> first | rfl | (simp at h)
  · rfl
  · rfl
  · rfl
  · rfl
  · rfl
  · intro f A g L
    refine s_cons (s_assign rfl (e_int ?_))
    refine s_cons (s_forList rfl (e_local rfl rfl ⟨pa, _, rfl, K.sub _ _ hp, fun i ε H' => ε.get "self" = some (.ref M.x) ∧ ε.get "voids" = some (.int (saRun P σ (ps.take i)).vo) ∧ H' = M.put H (saRun P σ (ps.take i)).σ,
      ⟨rfl, rfl, rfl⟩, fun i ε H' ⟨_, _, e⟩ => by subst e; exact K.sub _ _ hp, ?_, ?_⟩))
    · intro i ε H' p hi hh
      refine and3 hh fun h1 h4 hq02 => ?_
      clear hh
      subst hq02
      have hi' : i < ps.length := by simpa using hi
      rw [getD_mapP ps hi']
      have es := saRun_succ P σ hi'
      have hlen := saRun_len P σ (ps.take i)
      have ht := hd _ (List.getElem_mem hi')
      have hns := hs
      have htl : (ps.take i).length = i := by rw [List.length_take]; omega
      have hmem := List.getElem_mem hi'
      generalize hT : ps[i] = t at *
      generalize ha : saRun P σ (ps.take i) = a at *
      rw [Pc.enc_eq]
      have fin : ∀ {τ : Sg} {vo : Nat} {ε₁ : En} {H₁ : Hp}, saRun P σ (ps.take (i + 1)) = ⟨τ, vo⟩ → (ε₁.get "self" = some (.ref M.x) ∧ ε₁.get "voids" = some (.int vo) ∧ H₁ = M.put H τ) →
          ε₁.get "self" = some (.ref M.x) ∧ ε₁.get "voids" = some (.int (saRun P σ (ps.take (i + 1))).vo) ∧ H₁ = M.put H (saRun P σ (ps.take (i + 1))).σ := fun e a => by rw [e]; exact a
      refine s_cons (s_if (T1.mono (Q := fun b H₁ => b = (t.isV && P.vd t.var) ∧ H₁ = M.put H a.σ) ?_ fun b H₁ ⟨eb, eH⟩ => ⟨fun hb => ?_, fun hb => ?_⟩))
      · refine t_and (t_cmp (Nat.le_of_ble_eq_true rfl) (e_tm rfl rfl t.body0 rfl (e_str ⟨_, c_seq _ _, fun hc => ?_, fun hc => ?_⟩)))
        · rw [Pc.tag_v] at hc; rw [hc]; exact ⟨rfl, rfl⟩
        · rw [Pc.tag_v] at hc
          refine t_and (t_val (e_isVoid K h1 rfl (Nat.le_of_ble_eq_true rfl) (e_tm rfl rfl t.body1 rfl ⟨t.var, by rw [Pc.snd_var hc], Pc.dom_var hc ht, rfl, .inl ⟨_, rfl, fun hc2 => ?_, fun hc2 => ?_⟩⟩)))
          · rw [hc, hc2]; exact ⟨rfl, rfl⟩
          · exact t_and0 ⟨by rw [hc, hc2]; rfl, rfl⟩
      · subst eH
        rw [hb] at eb
        refine s_cons (s_augAdd h4 rfl (e_int ⟨_, rfl, ?_⟩))
        refine s_cons (s_continue ?_)
        unfold saStep at es
        rw [← eb, if_pos rfl] at es
        change (_ ∧ _ ∧ _)
        refine fin es ⟨h1, ?_, rfl⟩
        show some (AV.int ((a.vo : Int) + 1)) = some (.int ((a.vo + 1 : Nat) : Int))
        rw [Int.natCast_succ]
      · subst eH
        rw [hb] at eb
        unfold saStep at es
        rw [← eb, if_neg Bool.false_ne_true] at es
        dsimp only at es
        refine s_nil ?_
        have hfl := Sg.flush_len a.σ "set_void" a.vo
        refine s_cons (S1.mono (Q := fun fv ε₁ H₁ => fv = .next ∧ ε₁.get "self" = some (.ref M.x) ∧ ε₁.get "voids" = some (.int 0) ∧ ε₁.get "piece" = some (.tup t.body) ∧
          H₁ = M.put H (a.σ.flush "set_void" a.vo)) ?_ fun fv ε₁ H₁ ⟨e1, g1, g4, g5, e2⟩ => ?_)
        · refine s_if (t_cmp (Nat.le_of_ble_eq_true rfl) (e_local h4 rfl (e_int ⟨_, c_gt _ _, fun hc => ?_, fun hc => ?_⟩)))
          · have hc' : a.vo > 0 := by have := of_decide_eq_true hc; omega
            refine s_cons (s_emit K h1 rfl (Nat.le_of_ble_eq_true rfl) (e_tuple (es_cons (e_str (es_cons (e_local h4 rfl (es_nil ⟨Nat.le_of_ble_eq_true rfl, _, rfl, by omega, ?_⟩)))))))
            refine s_cons (s_assign rfl (e_int ?_))
            refine s_nil ⟨rfl, h1, rfl, rfl, ?_⟩
            unfold Sg.flush; rw [if_pos hc']
          · have hc' : ¬ a.vo > 0 := by have := of_decide_eq_false hc; omega
            have e0 : a.vo = 0 := by omega
            refine s_nil ⟨rfl, h1, ?_, rfl, ?_⟩
            · rw [e0] at h4; exact h4
            · unfold Sg.flush; rw [if_neg hc']
        · subst e1 e2
          generalize hσ : a.σ.flush "set_void" a.vo = τ at *
          refine s_cons (s_if (t_cmp (Nat.le_of_ble_eq_true rfl) (e_tm g5 rfl t.body0 rfl (e_str ⟨_, c_seq _ _, fun hc => ?_, fun hc => ?_⟩))))
          · rw [Pc.tag_v] at hc
            rw [if_pos hc] at es
            refine s_cons (s_expr (e_mcall K g1 rfl me_svar rfl (es_cons (e_tm g5 rfl t.body1 rfl (es_nil ?_)))))
            rw [Pc.snd_var hc]
            refine cv_def (svar_ok K (Pc.dom_var hc ht) (by omega) ⟨rfl, ?_⟩) (Nat.le_of_ble_eq_true rfl)
            exact s_nil (s_nil (fin es ⟨g1, g4, rfl⟩))
          · rw [Pc.tag_v] at hc
            rw [if_neg (by rw [hc]; decide)] at es
            refine s_cons (s_if (t_cmp (Nat.le_of_ble_eq_true rfl) (e_tm g5 rfl t.body0 rfl (e_str ⟨_, c_seq _ _, fun hc => ?_, fun hc => ?_⟩))))
            · rw [Pc.tag_t] at hc
              rw [if_pos hc] at es
              refine s_cons (s_emit K g1 rfl (Nat.le_of_ble_eq_true rfl) (e_tuple (es_cons (e_str (es_cons (e_local g5 rfl (es_nil ⟨Nat.le_of_ble_eq_true rfl, _, rfl, by omega, ?_⟩)))))))
              rw [Pc.enc_eq] at es
              exact s_nil (s_nil (s_nil (fin es ⟨g1, g4, rfl⟩)))
            · rw [Pc.tag_t] at hc
              rw [if_neg (by rw [hc]; decide)] at es
              obtain ⟨u, rfl⟩ : ∃ u, t = .tm u := by cases t with
                | tm u => exact ⟨u, rfl⟩
                | rg n => cases hc
              refine s_cons (s_emit K g1 rfl (Nat.le_of_ble_eq_true rfl) (e_tuple (es_cons (e_str (es_cons (e_cc rfl (Nat.le_of_ble_eq_true rfl) (e_local g5 rfl ⟨u, by rw [Tm.enc_eq]; rfl, es_nil ⟨Nat.le_of_ble_eq_true rfl, _, rfl, by omega, ?_⟩⟩)))))))
              exact s_nil (s_nil (s_nil (fin es ⟨g1, g4, rfl⟩)))
    · intro ε H' hh
      refine and3 hh fun h1 h4 hq02 => ?_
      clear hh
      subst hq02
      rw [List.length_map, List.take_length] at h4 ⊢
      have hlen := saRun_len P σ ps
      unfold saOut at q
      generalize saRun P σ ps = a at *
      refine s_cons (s_if (t_cmp (Nat.le_of_ble_eq_true rfl) (e_local h4 rfl (e_int ⟨_, c_gt _ _, fun hc => ?_, fun hc => ?_⟩))))
      · have hc' : a.vo > 0 := by have := of_decide_eq_true hc; omega
        refine s_cons (s_emit K h1 rfl (Nat.le_of_ble_eq_true rfl) (e_tuple (es_cons (e_str (es_cons (e_local h4 rfl (es_nil ⟨Nat.le_of_ble_eq_true rfl, _, rfl, by omega, ?_⟩)))))))
        unfold Sg.flush at q; rw [if_pos hc'] at q
        exact s_nil (s_nil q)
      · have hc' : ¬ a.vo > 0 := by have := of_decide_eq_false hc; omega
        unfold Sg.flush at q; rw [if_neg hc'] at q
        exact s_nil (s_nil q)
end
end Mine
set_option Elab.async false
set_option linter.unusedVariables false
set_option maxRecDepth 100000
namespace Mine
open PySem PySem.W PySem.Calls PySem.Spec PyProof.Rows
noncomputable def takeOne (t : Tm) (bs : List Int) : Pc × List Int := if t.isS then (match bs with | b :: r => (.rg b, r) | [] => (.tm t, [])) else (.tm t, bs)
noncomputable def takeArgs : List Tm → List Int → List Pc × List Int
  | [t, x], bs => ([(takeOne t bs).1, (takeOne x (takeOne t bs).2).1], (takeOne x (takeOne t bs).2).2)
  | [x], bs => ([(takeOne x bs).1], (takeOne x bs).2)
  | _, bs => ([], bs)
noncomputable def nestedWork : List Tm → List Tm
  | [t, x] => (if x.isS then [x] else []) ++ (if t.isS then [t] else [])
  | [x] => if x.isS then [x] else []
  | _ => []
noncomputable def wkE (p : Bool × Tm) : AV := .tup [.bool p.1, p.2.enc]
section
variable {prog : Program} {w : World} {f : Fm} {ε : En} {H : Hp} {M : Mk} {P : Pl} {σ : Sg}
/-- an item of a tuple or of a list, any expression before it -/
theorem e_itemX {e i : PySem.Expr} {pos : Pos} {Q : AV → Hp → Prop} (h : E1 prog w f e ε H (Two prog w f i ε (ItemP Q)))
    (hs : ∀ a k t, subscripted i false (.ref a) (.int k t) = operate [.ref a, .int k t] (getItem (.ref a) (.int k t)) := by intros; rfl) : E1 prog w f (.Subscript e i pos) ε H Q := fun o s m nx S =>
  Subscript_ (h.use o S fun v s₁ nx₁ av H₁ a S₁ c d q => q.use o S₁ fun u s₂ nx₂ bv H₂ a' S₂ c' d' ⟨k, l, dd, e1, hk, hl, hq, hv⟩ => by
    subst e1; obtain ⟨_, rfl⟩ := d'.ofInt
    have dv := d.ext c'
    rcases hv with rfl | ⟨x, rfl, hx⟩
    · obtain ⟨ad, vs, n, rfl, hm, va⟩ := dv.ofTup
      focus
        obtain ⟨v', hv1, hv2⟩ := va.get hl
        have hlt : k < vs.length := (List.getElem?_eq_some_iff.mp hv1).1
        have hT : IsTup s₂.heap ad vs.toArray := ⟨_, S₂.mem hm, rfl, _, rfl⟩
        exact tail_any hT.typeIs PyProof.Rows.slot_tuple_getitem.lookup (PyProof.Rows.getItem_tuple hT (j := k) (by omega) (by omega) (by simpa using seqIndex_nat k _ hlt) (by simpa using hv1) ⟨a.trans a', nx₂, dd, H₂, S₂, c.trans c', hv2, hq⟩) (hs _ _ _)
    · obtain rfl := dv.ofRef
      obtain ⟨ob, hm, ho⟩ := S₂.obj _ _ hx
      obtain ⟨vs, n, rfl, va⟩ := ho.ofList
      focus
        obtain ⟨v', hv1, hv2⟩ := va.get hl
        have hL : s₂.heap.IsList x vs.toArray := ⟨_, S₂.mem hm, rfl, _, rfl⟩
        exact tail_any hL.typeIs list_getitem_lookup (wpAny_getItem_list hL (by omega) (by omega) (by simpa using hv1) ⟨a.trans a', nx₂, dd, H₂, S₂, c.trans c', hv2, hq⟩) (hs _ _ _))
theorem nw1 (x : Tm) : nestedWork [x] = if x.isS then [x] else [] := rfl
theorem nw2 (y x : Tm) : nestedWork [y, x] = (if x.isS then [x] else []) ++ (if y.isS then [y] else []) := rfl
theorem me_wait : methOk (KK w) 265 "wait_for_nested" 166 = true := by kernel_rfl
theorem me_take : methOk (KK w) 265 "take_nested" 173 = true := by kernel_rfl
theorem Tm.args_S {t : Tm} (h : t.isS = true) : (∃ x, t.args = [x]) ∨ ∃ y x, t.args = [y, x] := by
  cases t with
  | s1 a => exact .inl ⟨a, rfl⟩
  | s2 p a b => exact .inr ⟨a, b, rfl⟩
  | _ => cases h
/-- the test on an argument's tag, then the push -/
theorem wait_ok {ts : List Tm} {a0 : AV} {wk : Addr} {W : List AV} {Q : AV → Hp → Prop} (hts : (∃ x, ts = [x]) ∨ ∃ y x, ts = [y, x]) (hw : H wk = some (.list W)) (hW : W.length < 100000)
    (q : Q .none (H.put wk (.list (W ++ ((nestedWork ts).map fun t => (false, t)).reverse.map wkE)))) : Ct prog w 166 7 [a0, .tup (ts.map Tm.enc), .ref wk] H Q := by
  refine ct_def (fa := 166) (n := 6) rfl ?_ ?_ ?_ ?_ ?_ ?_ ?_ ?_
  · rfl
  · intro vs h
    rcases vs with _ | ⟨a, _ | ⟨b, _ | ⟨c, _ | _⟩⟩⟩ <;> first | rfl | (simp at h)
  · rfl
  · rfl
  · rfl
  · rfl
  · rfl
  · intro f A g L
    rcases hts with ⟨x, rfl⟩ | ⟨y, x, rfl⟩
    · have hx := x.enc_eq
      refine s_cons (s_assign rfl (e_sub (e_callB (by kernel_rfl) rfl (by decide) rfl (es_cons (e_local rfl rfl (es_nil (cv_lenT (Nat.le_of_ble_eq_true rfl) (e_int ⟨_, _, rfl, rfl, ?_⟩)))))))) 
      refine s_cons (s_assign rfl (e_sub (e_local rfl rfl (e_int ⟨_, _, rfl, rfl, ?_⟩))))
      refine s_cons (s_while (fun m ε H' => m = 0 ∧ ε.get "args" = some (.tup [x.enc]) ∧ ε.get "work" = some (.ref wk) ∧ ε.get "last" = some (.int 0) ∧ ε.get "at" = some (.int (-1)) ∧ H' = H) 0 ⟨rfl, rfl, rfl, rfl, rfl, rfl⟩ ?_)
      intro m ε H' hh
      refine and6 hh fun hq00 h1 h2 h3 h4 hq05 => ?_
      clear hh
      subst hq00
      subst hq05
      refine t_cmp (Nat.le_refl 6) (e_local h4 rfl (e_int ⟨_, c_ge _ _, fun hc => ?_, fun _ => ?_⟩))
      · exact absurd (of_decide_eq_true hc) (by decide)
      refine s_cons (s_if (t_cmp (Nat.le_refl 6) (e_itemX (e_itemX (e_local h1 rfl (e_local h3 rfl ⟨0, _, _, rfl, by decide, rfl, (e_int ⟨0, x.body, _, rfl, by decide, x.body0, (e_str ⟨_, c_seq _ _, fun hc => ?_, fun hc => ?_⟩), .inl hx⟩), .inl rfl⟩))))))
      · rw [Tm.tag_s] at hc
        refine s_cons (s_expr (e_methB (e_local h2 rfl ⟨wk, _, rfl, mb_append hw, es_cons (e_tuple (es_cons (e_bool (es_cons (e_itemX (e_local h1 rfl (e_local h3 rfl ⟨0, _, _, rfl, by decide, rfl, es_nil ⟨Nat.le_of_ble_eq_true rfl, es_nil ?_⟩, .inl rfl⟩)))))))⟩)))
        refine cv_append hw (by omega) ⟨rfl, ?_⟩
        have e : nestedWork [x] = [x] := by rw [nw1, if_pos hc]
        rw [e] at q
        exact s_nil (s_nil q)
      · rw [Tm.tag_s] at hc
        have e : nestedWork [x] = [] := by rw [nw1, if_neg (by rw [hc]; decide)]
        rw [e, List.map_nil, List.reverse_nil, List.map_nil, List.append_nil, put_same hw] at q
        exact s_nil (s_nil q)
    · have hx := x.enc_eq
      have hy := y.enc_eq
      refine s_cons (s_assign rfl (e_sub (e_callB (by kernel_rfl) rfl (by decide) rfl (es_cons (e_local rfl rfl (es_nil (cv_lenT (Nat.le_of_ble_eq_true rfl) (e_int ⟨_, _, rfl, rfl, ?_⟩)))))))) 
      refine s_cons (s_assign rfl (e_sub (e_local rfl rfl (e_int ⟨_, _, rfl, rfl, ?_⟩))))
      refine s_cons (s_while (fun m ε H' => ε.get "args" = some (.tup [y.enc, x.enc]) ∧ ε.get "work" = some (.ref wk) ∧ ε.get "last" = some (.int 1) ∧ ((m = 1 ∧ ε.get "at" = some (.int 0) ∧ H' = H) ∨ (m = 0 ∧ ε.get "at" = some (.int (-1)) ∧ H' = H.put wk (.list (W ++ (if y.isS then [wkE (false, y)] else []))))))
        1 ⟨rfl, rfl, rfl, .inl ⟨rfl, rfl, rfl⟩⟩ ?_)
      rintro m ε H' ⟨h1, h2, h3, ⟨rfl, h4, rfl⟩ | ⟨rfl, h4, rfl⟩⟩
      · refine t_cmp (Nat.le_refl 6) (e_local h4 rfl (e_int ⟨_, c_ge _ _, fun _ => ?_, fun hc => absurd (of_decide_eq_false hc) (by decide)⟩))
        refine s_cons (S1.mono (Q := fun fv ε₁ H₁ => fv = .next ∧ ε₁ = ε ∧ H₁ = H'.put wk (.list (W ++ (if y.isS then [wkE (false, y)] else [])))) (s_if (t_cmp (Nat.le_refl 6) (e_itemX (e_itemX (e_local h1 rfl (e_local h4 rfl ⟨0, _, _, rfl, by decide, rfl, (e_int ⟨0, y.body, _, rfl, by decide, y.body0, (e_str ⟨_, c_seq _ _, fun hc => ?_, fun hc => ?_⟩), .inl hy⟩), .inl rfl⟩)))))) fun fv ε₁ H₁ ⟨e1, e2, e3⟩ => ?_)
        · rw [Tm.tag_s] at hc
          refine s_cons (s_expr (e_methB (e_local h2 rfl ⟨wk, _, rfl, mb_append hw, es_cons (e_tuple (es_cons (e_bool (es_cons (e_itemX (e_local h1 rfl (e_local h4 rfl ⟨0, _, _, rfl, by decide, rfl, es_nil ⟨Nat.le_of_ble_eq_true rfl, es_nil ?_⟩, .inl rfl⟩)))))))⟩)))
          refine cv_append hw (by omega) ⟨rfl, s_nil ⟨rfl, rfl, ?_⟩⟩
          rw [if_pos hc]; rfl
        · rw [Tm.tag_s] at hc
          refine s_nil ⟨rfl, rfl, ?_⟩
          rw [if_neg (by rw [hc]; decide), List.append_nil, put_same hw]
        · subst e1 e2 e3
          refine s_cons (s_augSub h4 rfl (e_int ⟨_, rfl, s_nil ⟨0, by decide, h1, h2, h3, .inr ⟨rfl, rfl, rfl⟩⟩⟩))
      · have hw2 : H.put wk (.list (W ++ (if y.isS then [wkE (false, y)] else []))) wk = some (.list (W ++ (if y.isS then [wkE (false, y)] else []))) := put_get _ _ _
        refine t_cmp (Nat.le_refl 6) (e_local h4 rfl (e_int ⟨_, c_ge _ _, fun hc => absurd (of_decide_eq_true hc) (by decide), fun _ => ?_⟩))
        have en : W ++ ((nestedWork [y, x]).map fun t => (false, t)).reverse.map wkE = (W ++ (if y.isS then [wkE (false, y)] else [])) ++ (if x.isS then [wkE (false, x)] else []) := by
          rw [nw2]
          cases hY : y.isS <;> cases hX : x.isS <;> simp
        rw [en] at q
        refine s_cons (s_if (t_cmp (Nat.le_refl 6) (e_itemX (e_itemX (e_local h1 rfl (e_local h3 rfl ⟨1, _, _, rfl, by decide, rfl, (e_int ⟨0, x.body, _, rfl, by decide, x.body0, (e_str ⟨_, c_seq _ _, fun hc => ?_, fun hc => ?_⟩), .inl hx⟩), .inl rfl⟩))))))
        · rw [Tm.tag_s] at hc
          refine s_cons (s_expr (e_methB (e_local h2 rfl ⟨wk, _, rfl, mb_append hw2, es_cons (e_tuple (es_cons (e_bool (es_cons (e_itemX (e_local h1 rfl (e_local h3 rfl ⟨1, _, _, rfl, by decide, rfl, es_nil ⟨Nat.le_of_ble_eq_true rfl, es_nil ?_⟩, .inl rfl⟩)))))))⟩)))
          refine cv_append hw2 (by rw [List.length_append]; split <;> simp <;> omega) ⟨rfl, ?_⟩
          rw [put_put]
          rw [if_pos hc] at q
          exact s_nil (s_nil q)
        · rw [Tm.tag_s] at hc
          rw [if_neg (c := x.isS = true) (by rw [hc]; decide), List.append_nil] at q
          exact s_nil (s_nil q)
end
end Mine
set_option Elab.async false
set_option linter.unusedVariables false
set_option maxRecDepth 100000
namespace Mine
open PySem PySem.W PySem.Calls PySem.Spec PyProof.Rows
theorem takeOne_s {t : Tm} (h : t.isS = true) (b : Int) (r : List Int) : takeOne t (b :: r) = (.rg b, r) := by unfold takeOne; rw [if_pos h]
theorem takeOne_n {t : Tm} (h : t.isS = false) (bs : List Int) : takeOne t bs = (.tm t, bs) := by unfold takeOne; rw [if_neg (by rw [h]; decide)]
theorem take1 (x : Tm) (bs : List Int) : takeArgs [x] bs = ([(takeOne x bs).1], (takeOne x bs).2) := rfl
theorem take2 (t x : Tm) (bs : List Int) : takeArgs [t, x] bs = ([(takeOne t bs).1, (takeOne x (takeOne t bs).2).1], (takeOne x (takeOne t bs).2).2) := rfl
section
variable {prog : Program} {w : World} {f : Fm} {ε : En} {H : Hp} {M : Mk} {P : Pl} {σ : Sg}
theorem take_ok {ts : List Tm} {a0 : AV} {bt : Addr} {bs : List Int} {Q : AV → Hp → Prop} (hts : (∃ x, ts = [x]) ∨ ∃ y x, ts = [y, x]) (hb : H bt = some (.list (bs.reverse.map reg))) (hB : bs.length < 100000) (hn : (nestedWork ts).length ≤ bs.length)
    (q : ∀ p, H p = none → Q (.ref p) ((H.put bt (.list ((takeArgs ts bs).2.reverse.map reg))).put p (.list ((takeArgs ts bs).1.map Pc.enc)))) : Ct prog w 173 7 [a0, .tup (ts.map Tm.enc), .ref bt] H Q := by
  refine ct_def (fa := 173) (n := 6) rfl ?_ ?_ ?_ ?_ ?_ ?_ ?_ ?_
  · rfl
  · intro vs h
    rcases vs with _ | ⟨a, _ | ⟨b, _ | ⟨c, _ | _⟩⟩⟩ <;> first | rfl | (simp at h)
  · rfl
  · rfl
  · rfl
  · rfl
  · rfl
  · intro f A g L
    rcases hts with ⟨x, rfl⟩ | ⟨y, x, rfl⟩
    · have hx := x.enc_eq
      refine s_cons (s_assign rfl (e_callT (by kernel_rfl) rfl (by decide) rfl (es_cons (e_local rfl rfl (es_nil (cv_listT (Nat.le_of_ble_eq_true rfl) fun p hp => ?_))))))
      have hpb : bt ≠ p := fun e => by rw [e, hp] at hb; cases hb
      have hb1 : H.put p (.list [x.enc]) bt = some (.list (bs.reverse.map reg)) := by rw [put_ne hpb]; exact hb
      refine s_cons (s_assign rfl (e_sub (e_callB (by kernel_rfl) rfl (by decide) rfl (es_cons (e_local rfl rfl (es_nil (cv_lenT (Nat.le_of_ble_eq_true rfl) (e_int ⟨_, _, rfl, rfl, ?_⟩))))))))
      refine s_cons (s_assign rfl (e_sub (e_local rfl rfl (e_int ⟨_, _, rfl, rfl, ?_⟩))))
      refine s_cons (s_while (fun m ε H' => m = 0 ∧ ε.get "args" = some (.tup [x.enc]) ∧ ε.get "built" = some (.ref bt) ∧ ε.get "pieces" = some (.ref p) ∧ ε.get "last" = some (.int 0) ∧ ε.get "at" = some (.int (-1)) ∧ H' = H.put p (.list [x.enc])) 0 ⟨rfl, rfl, rfl, rfl, rfl, rfl, rfl⟩ ?_)
      intro m ε H' hh
      refine and7 hh fun hq00 h1 h2 h5 h3 h4 hq06 => ?_
      clear hh
      subst hq00
      subst hq06
      refine t_cmp (Nat.le_refl 6) (e_local h4 rfl (e_int ⟨_, c_ge _ _, fun hc => ?_, fun _ => ?_⟩))
      · exact absurd (of_decide_eq_true hc) (by decide)
      have q' := q p hp
      rw [take1] at q'
      refine s_cons (s_if (t_cmp (Nat.le_refl 6) (e_itemX (e_itemX (e_local h1 rfl (e_local h3 rfl ⟨0, _, _, rfl, by decide, rfl, (e_int ⟨0, x.body, _, rfl, by decide, x.body0, (e_str ⟨_, c_seq _ _, fun hc => ?_, fun hc => ?_⟩), .inl hx⟩), .inl rfl⟩))))))
      · rw [Tm.tag_s] at hc
        rw [nw1, if_pos hc] at hn
        obtain ⟨b, r, rfl⟩ : ∃ b r, bs = b :: r := by cases bs with
          | nil => simp at hn
          | cons b r => exact ⟨b, r, rfl⟩
        rw [takeOne_s hc] at q'
        have hb2 : H.put p (.list [x.enc]) bt = some (.list (r.reverse.map reg ++ [reg b])) := by rw [hb1, List.reverse_cons, List.map_append]; rfl
        refine s_cons (s_setItem (e_methB0 (e_local h2 rfl ⟨bt, _, rfl, mb_pop hb2, cv_pop hb2 (by simp at hB ⊢; omega) (e_local h5 rfl (e_local h3 rfl ⟨p, [x.enc], 0, rfl, ?_, rfl, by simp, by decide, ?_⟩))⟩)))
        · rw [put_ne (Ne.symm hpb), put_get]
        · refine s_nil (s_cons (s_return (e_local h5 rfl ?_)))
          rw [put_comm hpb.symm, put_put]
          exact q'
      · rw [Tm.tag_s] at hc
        rw [takeOne_n hc] at q'
        refine s_nil (s_cons (s_return (e_local h5 rfl ?_)))
        dsimp only at q'
        rw [put_same hb] at q'
        exact q'
    · have hx := x.enc_eq
      have hy := y.enc_eq
      refine s_cons (s_assign rfl (e_callT (by kernel_rfl) rfl (by decide) rfl (es_cons (e_local rfl rfl (es_nil (cv_listT (Nat.le_of_ble_eq_true rfl) fun p hp => ?_))))))
      have hpb : bt ≠ p := fun e => by rw [e, hp] at hb; cases hb
      have hb1 : ∀ l, H.put p (.list l) bt = some (.list (bs.reverse.map reg)) := fun l => by rw [put_ne hpb]; exact hb
      refine s_cons (s_assign rfl (e_sub (e_callB (by kernel_rfl) rfl (by decide) rfl (es_cons (e_local rfl rfl (es_nil (cv_lenT (Nat.le_of_ble_eq_true rfl) (e_int ⟨_, _, rfl, rfl, ?_⟩))))))))
      refine s_cons (s_assign rfl (e_sub (e_local rfl rfl (e_int ⟨_, _, rfl, rfl, ?_⟩))))
      have hsplit : (nestedWork [y, x]).length = (if x.isS then 1 else 0) + (if y.isS then 1 else 0) := by rw [nw2]; cases x.isS <;> cases y.isS <;> rfl
      rw [hsplit] at hn
      refine s_cons (s_while (fun m ε H' => ε.get "args" = some (.tup [y.enc, x.enc]) ∧ ε.get "built" = some (.ref bt) ∧ ε.get "pieces" = some (.ref p) ∧ ε.get "last" = some (.int 1) ∧ ((m = 1 ∧ ε.get "at" = some (.int 0) ∧ H' = H.put p (.list [y.enc, x.enc])) ∨
        (m = 0 ∧ ε.get "at" = some (.int (-1)) ∧ H' = (H.put p (.list [(takeOne y bs).1.enc, x.enc])).put bt (.list ((takeOne y bs).2.reverse.map reg)))))
        1 ⟨rfl, rfl, rfl, rfl, .inl ⟨rfl, rfl, rfl⟩⟩ ?_)
      rintro m ε H' ⟨h1, h2, h5, h3, ⟨rfl, h4, rfl⟩ | ⟨rfl, h4, rfl⟩⟩
      · refine t_cmp (Nat.le_refl 6) (e_local h4 rfl (e_int ⟨_, c_ge _ _, fun _ => ?_, fun hc => absurd (of_decide_eq_false hc) (by decide)⟩))
        refine s_cons (S1.mono (Q := fun fv ε₁ H₁ => fv = .next ∧ ε₁ = ε ∧ H₁ = (H.put p (.list [(takeOne y bs).1.enc, x.enc])).put bt (.list ((takeOne y bs).2.reverse.map reg))) (s_if (t_cmp (Nat.le_refl 6) (e_itemX (e_itemX (e_local h1 rfl (e_local h4 rfl ⟨0, _, _, rfl, by decide, rfl, (e_int ⟨0, y.body, _, rfl, by decide, y.body0, (e_str ⟨_, c_seq _ _, fun hc => ?_, fun hc => ?_⟩), .inl hy⟩), .inl rfl⟩)))))) fun fv ε₁ H₁ ⟨e1, e2, e3⟩ => ?_)
        · rw [Tm.tag_s] at hc
          rw [if_pos (c := y.isS = true) hc] at hn
          obtain ⟨b, r, rfl⟩ : ∃ b r, bs = b :: r := by cases bs with
            | nil => simp at hn
            | cons b r => exact ⟨b, r, rfl⟩
          rw [takeOne_s hc]
          have hb2 : ∀ l, H.put p (.list l) bt = some (.list (r.reverse.map reg ++ [reg b])) := fun l => by rw [hb1, List.reverse_cons, List.map_append]; rfl
          refine s_cons (s_setItem (e_methB0 (e_local h2 rfl ⟨bt, _, rfl, mb_pop (hb2 _), cv_pop (hb2 _) (by simp at hB ⊢; omega) (e_local h5 rfl (e_local h4 rfl ⟨p, [y.enc, x.enc], 0, rfl, ?_, rfl, by simp, by decide, ?_⟩))⟩)))
          · rw [put_ne (Ne.symm hpb), put_get]
          · refine s_nil ⟨rfl, rfl, ?_⟩
            have e9 : ((H.put p (.list [y.enc, x.enc])).put bt (.list (r.reverse.map reg))).put p (.list ([y.enc, x.enc].set 0 (reg b))) = (H.put p (.list ([y.enc, x.enc].set 0 (reg b)))).put bt (.list (r.reverse.map reg)) := by
              rw [put_comm hpb.symm, put_put, put_comm hpb]
            exact e9
        · rw [Tm.tag_s] at hc
          rw [takeOne_n hc]
          refine s_nil ⟨rfl, rfl, ?_⟩
          exact (put_same (hb1 _)).symm
        · subst e1 e2 e3
          refine s_cons (s_augSub h4 rfl (e_int ⟨_, rfl, s_nil ⟨0, by decide, h1, h2, h5, h3, .inr ⟨rfl, rfl, rfl⟩⟩⟩))
      · have q' := q p hp
        rw [take2] at q'
        have hlen : (takeOne y bs).2.length ≤ bs.length ∧ (x.isS = true → 1 ≤ (takeOne y bs).2.length) := by
          unfold takeOne
          cases hY : y.isS with
          | true =>
            rw [if_pos rfl]
            rw [hY] at hn
            cases bs with
            | nil => simp at hn
            | cons b r =>
              refine ⟨Nat.le_succ _, fun hX => ?_⟩
              rw [hX] at hn
              simp at hn ⊢
              omega
          | false =>
            rw [if_neg (by decide)]
            refine ⟨Nat.le_refl _, fun hX => ?_⟩
            rw [hX] at hn
            simp at hn ⊢
            omega
        generalize takeOne y bs = z at *
        obtain ⟨py, bs1⟩ := z
        dsimp only at q' hlen ⊢
        have hp2 : (H.put p (.list [py.enc, x.enc])).put bt (.list (bs1.reverse.map reg)) p = some (.list [py.enc, x.enc]) := by rw [put_ne hpb.symm, put_get]
        refine t_cmp (Nat.le_refl 6) (e_local h4 rfl (e_int ⟨_, c_ge _ _, fun hc => absurd (of_decide_eq_true hc) (by decide), fun _ => ?_⟩))
        refine s_cons (s_if (t_cmp (Nat.le_refl 6) (e_itemX (e_itemX (e_local h1 rfl (e_local h3 rfl ⟨1, _, _, rfl, by decide, rfl, (e_int ⟨0, x.body, _, rfl, by decide, x.body0, (e_str ⟨_, c_seq _ _, fun hc => ?_, fun hc => ?_⟩), .inl hx⟩), .inl rfl⟩))))))
        · rw [Tm.tag_s] at hc
          obtain ⟨b, r, rfl⟩ : ∃ b r, bs1 = b :: r := by cases bs1 with
            | nil => have := hlen.2 hc; simp at this
            | cons b r => exact ⟨b, r, rfl⟩
          rw [takeOne_s hc] at q'
          have hb2 : (H.put p (.list [py.enc, x.enc])).put bt (.list ((b :: r).reverse.map reg)) bt = some (.list (r.reverse.map reg ++ [reg b])) := by rw [put_get, List.reverse_cons, List.map_append]; rfl
          refine s_cons (s_setItem (e_methB0 (e_local h2 rfl ⟨bt, _, rfl, mb_pop hb2, cv_pop hb2 (by have := hlen.1; simp at this ⊢; omega) (e_local h5 rfl (e_local h3 rfl ⟨p, [py.enc, x.enc], 1, rfl, ?_, rfl, by simp, by decide, ?_⟩))⟩)))
          · rw [put_put, put_ne hpb.symm, put_get]
          · refine s_nil (s_cons (s_return (e_local h5 rfl ?_)))
            rw [put_put, put_comm hpb.symm, put_put]
            exact q'
        · rw [Tm.tag_s] at hc
          rw [takeOne_n hc] at q'
          refine s_nil (s_cons (s_return (e_local h5 rfl ?_)))
          rw [put_comm hpb.symm]
          exact q'
end
end Mine
set_option Elab.async false
set_option linter.unusedVariables false
set_option maxRecDepth 100000
namespace Mine
open PySem PySem.W PySem.Calls PySem.Spec PyProof.Rows
noncomputable def putI (t : Tm) (r : Int) : AV := if t.snd == 0 then .tup [.str "put_list", reg r] else .tup [.str "put_structure", .int t.snd, reg r]
noncomputable def bReg (tg : Int) (σ : Sg) (wk : List (Bool × Tm)) : Int := if wk.isEmpty then tg else σ.nxt
noncomputable def bSg (σ : Sg) (wk : List (Bool × Tm)) : Sg := if wk.isEmpty then σ else σ.newT
noncomputable def buildRun (P : Pl) (tg : Int) : Nat → Sg → List (Bool × Tm) → List Int → Sg
  | 0, σ, _, _ => σ
  | _ + 1, σ, [], _ => σ
  | n + 1, σ, (false, t) :: wk, bs => buildRun P tg n σ ((nestedWork t.args).map (fun u => (false, u)) ++ (true, t) :: wk) bs
  | n + 1, σ, (true, t) :: wk, bs => buildRun P tg n (saOut P ((bSg σ wk).emit (putI t (bReg tg σ wk))) (takeArgs t.args bs).1) wk (bReg tg σ wk :: (takeArgs t.args bs).2)
theorem buildRun_nil (P : Pl) (tg : Int) (n : Nat) (σ : Sg) (bs : List Int) : buildRun P tg n σ [] bs = σ := by cases n <;> rfl
noncomputable def wcost (p : Bool × Tm) : Nat := if p.1 then 1 else 2 * p.2.size
noncomputable def wsum (l : List (Bool × Tm)) : Nat := (l.map wcost).sum
theorem wsum_cons (p : Bool × Tm) (l : List (Bool × Tm)) : wsum (p :: l) = wcost p + wsum l := by simp [wsum]
theorem wsum_append (l k : List (Bool × Tm)) : wsum (l ++ k) = wsum l + wsum k := by simp [wsum]
theorem nested_sum {t : Tm} (h : t.isS = true) : wsum ((nestedWork t.args).map fun u => (false, u)) + 2 ≤ 2 * t.size := by
  cases t with
  | s1 a =>
    show wsum ((nestedWork [a]).map fun u => (false, u)) + 2 ≤ _
    rw [nw1]
    cases a.isS <;> simp [wsum, wcost, Tm.size] <;> omega
  | s2 p a b =>
    show wsum ((nestedWork [a, b]).map fun u => (false, u)) + 2 ≤ _
    rw [nw2]
    cases a.isS <;> cases b.isS <;> simp [wsum, wcost, Tm.size] <;> omega
  | _ => cases h
theorem nested_in {t u : Tm} (h : t.isS = true) (hu : u ∈ nestedWork t.args) : u.isS = true ∧ u ∈ t.args := by
  cases t with
  | s1 a =>
    have hu : u ∈ nestedWork [a] := hu
    rw [nw1] at hu
    show _ ∧ u ∈ [a]
    cases ha : a.isS <;> rw [ha] at hu <;> simp at hu
    subst hu; exact ⟨ha, .head _⟩
  | s2 p a b =>
    have hu : u ∈ nestedWork [a, b] := hu
    rw [nw2] at hu
    show _ ∧ u ∈ [a, b]
    cases ha : a.isS <;> cases hb : b.isS <;> rw [ha, hb] at hu <;> simp at hu
    · subst hu; exact ⟨hb, .tail _ (.head _)⟩
    · subst hu; exact ⟨ha, .head _⟩
    · rcases hu with rfl | rfl
      · exact ⟨hb, .tail _ (.head _)⟩
      · exact ⟨ha, .head _⟩
  | _ => cases h
/-- enough is built for what waits -/
noncomputable def okW : List (Bool × Tm) → Nat → Prop
  | [], _ => True
  | (false, _) :: wk, b => okW wk (b + 1)
  | (true, t) :: wk, b => (nestedWork t.args).length ≤ b ∧ okW wk (b - (nestedWork t.args).length + 1)
theorem okW_push : ∀ (l : List Tm) (wk : List (Bool × Tm)) (b : Nat), okW wk (b + l.length) → okW (l.map (fun u => (false, u)) ++ wk) b
  | [], _, _, h => h
  | t :: r, wk, b, h => by
    show okW (r.map (fun u => (false, u)) ++ wk) (b + 1)
    exact okW_push r wk (b + 1) (by simpa [Nat.add_assoc, Nat.add_comm, Nat.add_left_comm] using h)
theorem takeOne_facts (P : Pl) (t : Tm) (bs : List Int) (hd : t.dom P) (hn : t.isS = true → 1 ≤ bs.length) : (takeOne t bs).2.length = bs.length - (if t.isS then 1 else 0) ∧ (takeOne t bs).1.dom P ∧ (∀ u, (takeOne t bs).1 = .tm u → u.isS = false) := by
  cases h : t.isS with
  | true =>
    cases bs with
    | nil => have := hn h; simp at this
    | cons b r => rw [takeOne_s h]; exact ⟨by simp, trivial, fun u e => by cases e⟩
  | false => rw [takeOne_n h]; exact ⟨by simp, hd, fun u e => by cases e; exact h⟩
theorem takeArgs_facts (P : Pl) {t : Tm} (ht : t.isS = true) (bs : List Int) (hd : t.dom P) (hn : (nestedWork t.args).length ≤ bs.length) :
    (takeArgs t.args bs).2.length = bs.length - (nestedWork t.args).length ∧ (∀ p ∈ (takeArgs t.args bs).1, p.dom P) ∧ (∀ u, Pc.tm u ∈ (takeArgs t.args bs).1 → u.isS = false) ∧ (takeArgs t.args bs).1.length ≤ 2 := by
  cases t with
  | s1 a =>
    have hn : (nestedWork [a]).length ≤ bs.length := hn
    show (takeArgs [a] bs).2.length = bs.length - (nestedWork [a]).length ∧ (∀ p ∈ (takeArgs [a] bs).1, p.dom P) ∧ (∀ u, Pc.tm u ∈ (takeArgs [a] bs).1 → u.isS = false) ∧ (takeArgs [a] bs).1.length ≤ 2
    have hl : (nestedWork [a]).length = if a.isS then 1 else 0 := by rw [nw1]; cases a.isS <;> rfl
    rw [hl] at hn ⊢
    obtain ⟨f1, f2, f3⟩ := takeOne_facts P a bs hd (fun h => by rw [h] at hn; simpa using hn)
    rw [take1]
    exact ⟨f1, fun p hp => by rw [List.mem_singleton.mp hp]; exact f2, fun u hu => f3 u (List.mem_singleton.mp hu).symm, by simp⟩
  | s2 q a b =>
    have hn : (nestedWork [a, b]).length ≤ bs.length := hn
    show (takeArgs [a, b] bs).2.length = bs.length - (nestedWork [a, b]).length ∧ (∀ p ∈ (takeArgs [a, b] bs).1, p.dom P) ∧ (∀ u, Pc.tm u ∈ (takeArgs [a, b] bs).1 → u.isS = false) ∧ (takeArgs [a, b] bs).1.length ≤ 2
    have hl : (nestedWork [a, b]).length = (if b.isS then 1 else 0) + (if a.isS then 1 else 0) := by rw [nw2]; cases a.isS <;> cases b.isS <;> rfl
    rw [hl] at hn ⊢
    have hda : a.dom P := fun k hk => hd k (List.mem_append_left _ hk)
    have hdb : b.dom P := fun k hk => hd k (List.mem_append_right _ hk)
    obtain ⟨f1, f2, f3⟩ := takeOne_facts P a bs hda (fun h => by rw [h] at hn; simp at hn; omega)
    obtain ⟨g1, g2, g3⟩ := takeOne_facts P b (takeOne a bs).2 hdb (fun h => by rw [f1]; rw [h] at hn; simp at hn ⊢; omega)
    rw [take2]
    refine ⟨by dsimp only; rw [g1, f1]; omega, fun p hp => ?_, fun u hu => ?_, by simp⟩
    · simp only [List.mem_cons, List.not_mem_nil, or_false] at hp
      rcases hp with rfl | rfl
      · exact f2
      · exact g2
    · simp only [List.mem_cons, List.not_mem_nil, or_false] at hu
      rcases hu with hu | hu
      · exact f3 u hu.symm
      · exact g3 u hu.symm
  | _ => cases ht
theorem bSg_len (σ : Sg) (wk : List (Bool × Tm)) : (bSg σ wk).code.length = σ.code.length := by unfold bSg; split <;> rfl
theorem buildRun_len (P : Pl) (tg : Int) : ∀ (n : Nat) (σ : Sg) (wk : List (Bool × Tm)) (bs : List Int), (∀ p ∈ wk, p.2.isS = true ∧ p.2.dom P) → okW wk bs.length → (buildRun P tg n σ wk bs).code.length ≤ σ.code.length + 6 * n
  | 0, σ, _, _, _, _ => Nat.le_refl _
  | n + 1, σ, [], _, _, _ => by unfold buildRun; omega
  | n + 1, σ, (false, t) :: wk, bs, hp, hk => by
    obtain ⟨h1, h2⟩ := hp _ (.head _)
    have := buildRun_len P tg n σ ((nestedWork t.args).map (fun u => (false, u)) ++ (true, t) :: wk) bs (fun p hp' => by
      rcases List.mem_append.mp hp' with h | h
      · obtain ⟨u, hu, rfl⟩ := List.mem_map.mp h
        obtain ⟨a1, a2⟩ := nested_in h1 hu
        exact ⟨a1, Tm.dom_args h2 a2⟩
      · rcases List.mem_cons.mp h with rfl | h
        · exact ⟨h1, h2⟩
        · exact hp _ (.tail _ h)) (okW_push _ _ _ ⟨Nat.le_add_left _ _, by rw [Nat.add_sub_cancel]; exact hk⟩)
    unfold buildRun
    omega
  | n + 1, σ, (true, t) :: wk, bs, hp, hk => by
    obtain ⟨h1, h2⟩ := hp _ (.head _)
    dsimp only at h1 h2
    obtain ⟨f1, f2, f3, f4⟩ := takeArgs_facts P h1 bs h2 hk.1
    have := buildRun_len P tg n (saOut P ((bSg σ wk).emit (putI t (bReg tg σ wk))) (takeArgs t.args bs).1) wk (bReg tg σ wk :: (takeArgs t.args bs).2) (fun p h => hp p (.tail _ h)) (by
      rw [List.length_cons, f1]; exact hk.2)
    have h3 := saOut_len P ((bSg σ wk).emit (putI t (bReg tg σ wk))) (takeArgs t.args bs).1
    rw [Sg.emit_len, bSg_len] at h3
    unfold buildRun
    omega
section
variable {prog : Program} {w : World} {f : Fm} {ε : En} {H : Hp} {M : Mk} {P : Pl} {σ : Sg}
theorem me_build : methOk (KK w) 265 "build" 159 = true := by kernel_rfl
theorem build_ok {t : Tm} {tg : Int} {Q : AV → Hp → Prop} (K : M.Ok P H) (ht : t.isS = true) (hd : t.dom P) (hl : σ.code.length + 12 * t.size + 10 < 1000000) (hz : t.size < 400)
    (q : Q .none (M.put H (buildRun P tg (2 * t.size) σ [(false, t)] []))) : Ct prog w 159 13 [.ref M.x, t.enc, reg tg] (M.put H σ) Q := by
  refine Ct.weak (ct_def (fa := 159) (n := 12) rfl ?_ ?_ ?_ ?_ ?_ ?_ ?_ ?_)
  · rfl
  · intro vs h
    rcases vs with _ | ⟨a, _ | ⟨b, _ | ⟨c, _ | _⟩⟩⟩ <;> first | rfl | (simp at h)
  · rfl
  · rfl
  · rfl
  · rfl
  · rfl
  · intro f A g L
    refine s_cons (s_assign rfl (e_list (es_cons (e_tuple (es_cons (e_bool (es_cons (e_local rfl rfl (es_nil ⟨Nat.le_of_ble_eq_true rfl, es_nil ⟨Nat.le_of_ble_eq_true rfl, fun wk hn => ?_⟩⟩)))))))))
    obtain ⟨K0, e0⟩ := K.new (.list [wkE (false, t)]) hn
    have e00 : (M.put H σ).put wk (.list [AV.tup [.bool false, t.enc]]) = M.put (H.put wk (.list [wkE (false, t)])) σ := e0
    rw [e00]
    refine s_cons (s_assign rfl (e_list (es_nil ⟨Nat.le_of_ble_eq_true rfl, fun bt hn2 => ?_⟩)))
    obtain ⟨K00, e01⟩ := K0.new (.list []) hn2
    rw [e01]
    have hwb : wk ≠ bt := fun e => by
      have := K0.sub (σ := σ) _ _ (put_get H wk _)
      have h := hn2
      rw [← e, this] at h; cases h
    generalize hfin : buildRun P tg (2 * t.size) σ [(false, t)] [] = fin at q
    have kk : ∀ l l' τ, M.Ok P ((H.put wk (.list l)).put bt (.list l')) ∧ (∀ k, (M.put ((H.put wk (.list l)).put bt (.list l')) τ).put wk (.list k) = M.put ((H.put wk (.list k)).put bt (.list l')) τ) ∧ (∀ k, (M.put ((H.put wk (.list l)).put bt (.list l')) τ).put bt (.list k) = M.put ((H.put wk (.list l)).put bt (.list k)) τ) := fun l l' τ => by
      have A1 := (K0.turnL (σ := σ) (put_get H wk _) l).1
      rw [put_put] at A1
      have nb : (M.put (H.put wk (.list l)) σ) bt = none := by
        cases q0 : M.put (H.put wk (.list l)) σ bt with
        | none => rfl
        | some o =>
          exfalso
          have : M.put (H.put wk (.list [wkE (false, t)])) σ bt = M.put (H.put wk (.list l)) σ bt := by
            unfold Mk.put Hp.put
            split <;> (try rfl)
            split <;> (try rfl)
            split <;> (try rfl)
            split <;> (try rfl)
            split
            · rename_i z; exact absurd z.symm hwb
            · rfl
          rw [this, q0] at hn2; cases hn2
      have A2 := (A1.new (.list l') nb).1
      refine ⟨A2, fun k => ?_, fun k => ?_⟩
      · have := (A2.turnL (σ := τ) (a := wk) (l := l) (by rw [put_ne hwb, put_get]) k).2
        rw [this, put_comm hwb.symm, put_put]
      · have := (A2.turnL (σ := τ) (put_get _ bt _) k).2
        rw [this, put_put]
    refine s_cons (s_while (fun m ε H' => ∃ σ' wl bs, wsum wl ≤ m ∧ m < 1000 ∧ (∀ p ∈ wl, p.2.isS = true ∧ p.2.dom P) ∧ okW wl bs.length ∧ bs.length + m < 2000 ∧ ε.get "self" = some (.ref M.x) ∧ ε.get "work" = some (.ref wk) ∧ ε.get "built" = some (.ref bt) ∧ ε.get "target" = some (reg tg) ∧
      H' = M.put ((H.put wk (.list (wl.reverse.map wkE))).put bt (.list (bs.reverse.map reg))) σ' ∧ buildRun P tg m σ' wl bs = fin ∧ σ'.code.length + 6 * m + 10 < 1000000) (2 * t.size)
      ⟨σ, [(false, t)], [], by simp [wsum, wcost], by omega, by intro p hp; rw [List.mem_singleton.mp hp]; exact ⟨ht, hd⟩, trivial, by simp; omega, rfl, rfl, rfl, rfl, rfl, hfin, by omega⟩ ?_)
    intro m ε H' hh
    refine Exists.elim hh fun σ' hh1 => Exists.elim hh1 fun wl hh2 => Exists.elim hh2 fun bs hh3 => and12 hh3 fun hs hm hp hok hbm h1 h2 h3 h4 hq09 hf hb => ?_
    clear hh3 hh2 hh1 hh
    subst hq09
    obtain ⟨K1, kw1, kb1⟩ := kk (wl.reverse.map wkE) (bs.reverse.map reg) σ'
    have hw1 : ∀ l l' τ, M.put ((H.put wk (.list l)).put bt (.list l')) τ wk = some (.list l) := fun l l' τ => (kk l l' τ).1.sub _ _ (by rw [put_ne hwb, put_get])
    have hb1 : ∀ l l' τ, M.put ((H.put wk (.list l)).put bt (.list l')) τ bt = some (.list l') := fun l l' τ => (kk l l' τ).1.sub _ _ (put_get _ _ _)
    have hlen : wl.length ≤ m := by
      refine Nat.le_trans ?_ hs
      clear hp hf hs K1 kw1 kb1 hok
      induction wl with
      | nil => exact Nat.zero_le _
      | cons p r ih =>
        have : 1 ≤ wcost p := by unfold wcost; have := p.2.size_pos; split <;> omega
        rw [wsum_cons, List.length_cons]; omega
    refine t_cmp (Nat.le_of_ble_eq_true rfl) (e_callB (by kernel_rfl) rfl (by decide) rfl (es_cons (e_local h2 rfl (es_nil (cv_len (hw1 _ _ _) (by simp; omega) (e_int ⟨_, c_gt _ _, fun hc => ?_, fun hc => ?_⟩))))))
    · rcases wl with _ | ⟨⟨rd, u⟩, wl⟩
      · simp at hc
      obtain ⟨hu, hud⟩ := hp _ (.head _)
      dsimp only at hu hud
      rw [wsum_cons] at hs
      have hpos : 1 ≤ wcost (rd, u) := by
        have := u.size_pos
        show 1 ≤ if rd = true then 1 else 2 * u.size
        split <;> omega
      obtain ⟨m, rfl⟩ : ∃ k, m = k + 1 := ⟨m - 1, by omega⟩
      have e3 : ((rd, u) :: wl).reverse.map wkE = wl.reverse.map wkE ++ [wkE (rd, u)] := by rw [List.reverse_cons, List.map_append]; rfl
      rw [e3] at kw1 ⊢
      have hlwl : wl.length ≤ m := by simp at hlen; omega
      refine s_cons (s_pair rfl rfl (e_methB0 (e_local h2 rfl ⟨wk, _, rfl, mb_pop (hw1 _ _ _), cv_pop (hw1 _ _ _) (by simp; omega) ⟨_, _, rfl, ?_⟩⟩)))
      rw [kw1]
      obtain ⟨K2, kw2, kb2⟩ := kk (wl.reverse.map wkE) (bs.reverse.map reg) σ'
      rw [Tm.enc_eq]
      refine s_cons (s_if (t_not (t_val (e_local rfl rfl (.inl ⟨rd, rfl, fun hrd => ?_, fun hrd => ?_⟩)))))
      · -- not ready: it waits
        have hrd' : rd = false := by cases rd <;> simp_all
        subst hrd'
        unfold buildRun at hf
        refine s_cons (s_expr (e_methB (e_local h2 rfl ⟨wk, _, rfl, mb_append (hw1 _ _ _), es_cons (e_tuple (es_cons (e_bool (es_cons (e_local rfl rfl (es_nil ⟨Nat.le_of_ble_eq_true rfl, es_nil (cv_append (hw1 _ _ _) (by simp; omega) ⟨rfl, ?_⟩)⟩))))))⟩)))
        rw [kw2]
        have e4 : wl.reverse.map wkE ++ [AV.tup [.bool true, .tup u.body]] = ((true, u) :: wl).reverse.map wkE := by rw [List.reverse_cons, List.map_append, List.map_singleton]; unfold wkE; rw [Tm.enc_eq]
        rw [e4]
        obtain ⟨K3, kw3, kb3⟩ := kk (((true, u) :: wl).reverse.map wkE) (bs.reverse.map reg) σ'
        refine s_cons (s_expr (e_mcall K3 h1 rfl me_wait rfl (es_cons (e_tm rfl rfl (Tm.body2 hu) rfl (es_cons (e_local (by exact h2) rfl (es_nil ?_)))))))
        refine cv_def (wait_ok (Tm.args_S hu) (hw1 _ _ _) (by simp; omega) ⟨rfl, ?_⟩) (Nat.le_of_ble_eq_true rfl)
        rw [kw3]
        refine s_cons (s_continue ?_)
        have hns := nested_sum hu
        refine ⟨m, Nat.lt_succ_self _, σ', (nestedWork u.args).map (fun x => (false, x)) ++ (true, u) :: wl, bs, ?_, by omega, ?_, ?_, by omega, h1, h2, h3, h4, ?_, hf, by omega⟩
        · rw [wsum_append, wsum_cons]
          unfold wcost at hs ⊢
          simp only [Bool.false_eq_true, if_false, if_true] at hs ⊢
          omega
        · intro p hp'
          rcases List.mem_append.mp hp' with h | h
          · obtain ⟨x, hx, rfl⟩ := List.mem_map.mp h
            obtain ⟨a1, a2⟩ := nested_in hu hx
            exact ⟨a1, Tm.dom_args hud a2⟩
          · rcases List.mem_cons.mp h with rfl | h
            · exact ⟨hu, hud⟩
            · exact hp _ (.tail _ h)
        · exact okW_push _ _ _ ⟨Nat.le_add_left _ _, by rw [Nat.add_sub_cancel]; exact hok⟩
        · rw [List.reverse_append, List.map_append]
      · -- ready: it is put
        have hrd' : rd = true := by cases rd <;> simp_all
        subst hrd'
        unfold buildRun at hf
        obtain ⟨hn1, hn2'⟩ := hok
        obtain ⟨f1, f2, f3, f4⟩ := takeArgs_facts P hu bs hud hn1
        refine s_nil (S1.weakP ?_)
        refine s_cons (s_assign rfl (e_mcall K2 h1 rfl me_take rfl (es_cons (e_tm rfl rfl (Tm.body2 hu) rfl (es_cons (e_local (by exact h3) rfl (es_nil ?_)))))))
        refine cv_def (take_ok (Tm.args_S hu) (hb1 _ _ _) (by omega) hn1 fun pa hpa => ?_) (Nat.le_of_ble_eq_true rfl)
        have npa : ∀ l', M.put ((H.put wk (.list (wl.reverse.map wkE))).put bt (.list l')) σ' pa = none := fun l' => by
          rw [← kb2 l']
          have hne : pa ≠ bt := fun e => by rw [e, hb1] at hpa; cases hpa
          rw [put_ne hne]; exact hpa
        rw [kb2]
        generalize hta : takeArgs u.args bs = z at *
        obtain ⟨ps, bs'⟩ := z
        dsimp only at f1 f2 f3 f4 hf ⊢
        obtain ⟨K4, e4⟩ := ((kk (wl.reverse.map wkE) (bs'.reverse.map reg) σ').1).new (.list (ps.map Pc.enc)) (npa _)
        rw [e4]
        have hnx : ∀ τ l, (M.put (((H.put wk (.list (wl.reverse.map wkE))).put bt (.list (bs'.reverse.map reg))).put pa (.list (ps.map Pc.enc))) τ).put bt (.list l) = (M.put ((((H.put wk (.list (wl.reverse.map wkE))).put bt (.list l))).put pa (.list (ps.map Pc.enc))) τ) := fun τ l => by
          have hne : bt ≠ pa := fun e => by rw [← e, hb1] at hpa; cases hpa
          have := (K4.turnL (σ := τ) (a := bt) (l := bs'.reverse.map reg) (by rw [put_ne hne, put_get]) l).2
          rw [this, put_comm hne.symm, put_put]
        have hbt4 : ∀ τ, M.put (((H.put wk (.list (wl.reverse.map wkE))).put bt (.list (bs'.reverse.map reg))).put pa (.list (ps.map Pc.enc))) τ bt = some (.list (bs'.reverse.map reg)) := fun τ => by
          have hne : bt ≠ pa := fun e => by rw [← e, hb1] at hpa; cases hpa
          exact K4.sub _ _ (by rw [put_ne hne, put_get])
        have hwk4 : ∀ τ, M.put (((H.put wk (.list (wl.reverse.map wkE))).put bt (.list (bs'.reverse.map reg))).put pa (.list (ps.map Pc.enc))) τ wk = some (.list (wl.reverse.map wkE)) := fun τ => by
          have hne : wk ≠ pa := fun e => by rw [← e, hw1] at hpa; cases hpa
          exact K4.sub _ _ (by rw [put_ne hne, put_ne hwb, put_get])
        have hpa4 : (((H.put wk (.list (wl.reverse.map wkE))).put bt (.list (bs'.reverse.map reg))).put pa (.list (ps.map Pc.enc))) pa = some (.list (ps.map Pc.enc)) := put_get _ _ _
        have hsub4 : ∀ τ l, Sub (M.put ((H.put wk (.list (wl.reverse.map wkE))).put bt (.list l)) τ) (M.put (((H.put wk (.list (wl.reverse.map wkE))).put bt (.list l)).put pa (.list (ps.map Pc.enc))) τ) := fun τ l => by
          refine M.subPut (Sub.fresh ?_) τ
          exact ((kk (wl.reverse.map wkE) l σ').1).sub.none (npa l)
        -- the register
        refine s_cons (S1.mono (Q := fun fv ε₁ H₁ => fv = .next ∧ ε₁.get "self" = some (.ref M.x) ∧ ε₁.get "work" = some (.ref wk) ∧ ε₁.get "built" = some (.ref bt) ∧ ε₁.get "target" = some (reg tg) ∧ ε₁.get "node" = some (.tup u.body) ∧ ε₁.get "pieces" = some (.ref pa) ∧ ε₁.get "register" = some (reg (bReg tg σ' wl)) ∧
          H₁ = M.put (((H.put wk (.list (wl.reverse.map wkE))).put bt (.list (bs'.reverse.map reg))).put pa (.list (ps.map Pc.enc))) (bSg σ' wl)) ?_ fun fv ε₁ H₁ ⟨e1, g1, g2, g3, g4, g5, g6, g7, e2⟩ => ?_)
        · refine s_if (t_cmp (Nat.le_of_ble_eq_true rfl) (e_callB (by kernel_rfl) rfl (by decide) rfl (es_cons (e_local h2 rfl (es_nil (cv_len (hwk4 _) (by simp; omega) (e_int ⟨_, c_eq _ _, fun hc => ?_, fun hc => ?_⟩)))))))
          · have hc' : wl.isEmpty = true := by
              cases wl with
              | nil => rfl
              | cons a r => simp at hc; omega
            refine s_cons (s_assign rfl (e_local h4 rfl (s_nil ⟨rfl, h1, h2, h3, h4, rfl, rfl, ?_, ?_⟩)))
            · unfold bReg; rw [hc']; rfl
            · unfold bSg; rw [hc']; rfl
          · have hc' : wl.isEmpty = false := by
              cases wl with
              | nil => simp at hc
              | cons a r => rfl
            refine s_cons (s_assign rfl (e_newT K4 h1 rfl (Nat.le_of_ble_eq_true rfl) (s_nil ⟨rfl, h1, h2, h3, h4, rfl, rfl, ?_, ?_⟩)))
            · unfold bReg; rw [hc']; rfl
            · unfold bSg; rw [hc']; rfl
        · subst e1 e2
          have hbl := bSg_len σ' wl
          generalize hR : bReg tg σ' wl = rg at *
          generalize hT : bSg σ' wl = τ at *
          refine s_cons (S1.mono (Q := fun fv ε₂ H₁ => fv = .next ∧ ε₂ = ε₁ ∧
            H₁ = M.put (((H.put wk (.list (wl.reverse.map wkE))).put bt (.list (bs'.reverse.map reg))).put pa (.list (ps.map Pc.enc))) (τ.emit (putI u rg))) ?_ fun fv ε₂ H₁ ⟨e1, e3, e2⟩ => ?_)
          · refine s_if (t_cmp (Nat.le_of_ble_eq_true rfl) (e_tm g5 rfl u.body1 rfl (e_global (v := .int 0 194) (by kernel_rfl) (.int _ _) rfl ⟨_, c_eq _ _, fun hc => ?_, fun hc => ?_⟩)))
            · refine s_cons (s_emit K4 g1 rfl (Nat.le_of_ble_eq_true rfl) (e_tuple (es_cons (e_str (es_cons (e_local g7 rfl (es_nil ⟨Nat.le_of_ble_eq_true rfl, _, rfl, by omega, ?_⟩)))))))
              refine s_nil ⟨rfl, rfl, ?_⟩
              unfold putI; rw [if_pos hc]
            · refine s_cons (s_emit K4 g1 rfl (Nat.le_of_ble_eq_true rfl) (e_tuple (es_cons (e_str (es_cons (e_tm g5 rfl u.body1 rfl (es_cons (e_local g7 rfl (es_nil ⟨Nat.le_of_ble_eq_true rfl, _, rfl, by omega, ?_⟩)))))))))
              refine s_nil ⟨rfl, rfl, ?_⟩
              unfold putI; rw [if_neg (by rw [hc]; decide)]
          · subst e1 e3 e2
            have hso := saOut_len P (τ.emit (putI u rg)) ps
            have hel := Sg.emit_len τ (putI u rg)
            refine s_cons (s_expr (e_mcall K4 g1 rfl me_sargs rfl (es_cons (e_local g6 rfl (es_nil ?_)))))
            refine cv_def (sargs_ok K4 hpa4 f2 f3 (by omega) (by omega) ⟨rfl, ?_⟩) (Nat.le_of_ble_eq_true rfl)
            refine s_cons (s_expr (e_methB (e_local g3 rfl ⟨bt, _, rfl, mb_append (hbt4 _), es_cons (e_local g7 rfl (es_nil (cv_append (hbt4 _) (by simp; omega) ⟨rfl, ?_⟩)))⟩)))
            rw [hnx]
            refine s_nil ⟨_, _, fun _ _ h => h, hsub4 _ _, m, Nat.lt_succ_self _, _, wl, rg :: bs', ?_, by omega, fun p h => hp p (.tail _ h), ?_, ?_, g1, g2, g3, g4, ?_, hf, by omega⟩
            · omega
            · rw [List.length_cons, f1]; exact hn2'
            · rw [List.length_cons]; omega
            · rw [List.reverse_cons, List.map_append]; rfl
    · have : wl = [] := by
        cases wl with
        | nil => rfl
        | cons p r => simp at hc
      subst this
      rw [buildRun_nil] at hf
      subst hf
      refine s_nil ⟨_, M.subPut ?_ _, q⟩
      refine (Sub.fresh (K.sub.none hn)).trans (Sub.fresh ?_)
      have A1 := (K0.turnL (σ := σ) (put_get H wk _) (([] : List (Bool × Tm)).reverse.map wkE)).1
      rw [put_put] at A1
      have := K0.sub.none hn2
      rw [put_ne hwb.symm] at this ⊢
      exact this
end
end Mine
set_option Elab.async false
set_option linter.unusedVariables false
set_option maxRecDepth 100000
namespace Mine
open PySem PySem.W PySem.Calls PySem.Spec PyProof.Rows
noncomputable def freshR (P : Pl) (σ : Sg) (k : Nat) : Int := if P.pm k then σ.nxt else k
noncomputable def freshS (P : Pl) (σ : Sg) (k : Nat) : Sg := if P.pm k then σ.newT else σ
noncomputable def settle (P : Pl) (σ : Sg) (k : Nat) (r : AV) : Sg := if P.pm k then (σ.see k).emit (.tup [.str "get_variable", P.plc k, r]) else σ.see k
noncomputable def loadS (P : Pl) (σ : Sg) (k : Nat) (r : AV) : Sg := if σ.loc k then σ.emit (.tup [.str "put_unsafe_value", P.plc k, r]) else σ.emit (.tup [.str "put_value", P.plc k, r])
noncomputable def regOfR (P : Pl) (σ : Sg) (k : Nat) : Int := if !P.pm k then k else σ.nxt
noncomputable def regOfS (P : Pl) (σ : Sg) (k : Nat) : Sg := if !P.pm k then σ else loadS P σ.newT k (reg σ.nxt)
noncomputable def introduce (P : Pl) (σ : Sg) (k : Nat) : Sg := if P.vd k then σ else settle P ((freshS P σ k).emit (.tup [.str "put_void", reg (freshR P σ k)])) k (reg (freshR P σ k))
noncomputable def aliasS (P : Pl) (σ : Sg) (k old : Nat) : Sg :=
  if P.vd k then σ
  else if P.pm old then settle P (loadS P (freshS P σ k) old (reg (freshR P σ k))) k (reg (freshR P σ k))
  else if P.pm k then ((if σ.loc old then σ.addL k else σ).see k).emit (.tup [.str "get_variable", P.plc k, P.plc old])
  else ((if σ.loc old then σ.addL k else σ).see k).emit (.tup [.str "put_value", P.plc old, P.plc k])
noncomputable def uvv (P : Pl) (σ : Sg) (j k : Nat) : Sg :=
  if σ.seen j && σ.seen k then
    if j = k then σ
    else if P.pm j then (regOfS P σ k).emit (.tup [.str "get_value", P.plc j, reg (regOfR P σ k)])
    else σ.emit (.tup [.str "get_value", P.plc k, P.plc j])
  else if σ.seen j then aliasS P σ k j
  else if σ.seen k then aliasS P σ j k
  else if j = k then introduce P σ k
  else if (introduce P σ k).seen k then aliasS P (introduce P σ k) j k
  else introduce P (introduce P σ k) j
theorem freshS_len (P : Pl) (σ : Sg) (k : Nat) : (freshS P σ k).code.length = σ.code.length := by unfold freshS; split <;> rfl
theorem settle_len (P : Pl) (σ : Sg) (k : Nat) (r : AV) : (settle P σ k r).code.length ≤ σ.code.length + 1 := by unfold settle; split <;> simp [Sg.emit_len, Sg.see_len]
theorem loadS_len (P : Pl) (σ : Sg) (k : Nat) (r : AV) : (loadS P σ k r).code.length = σ.code.length + 1 := by unfold loadS; split <;> simp [Sg.emit_len]
theorem regOfS_len (P : Pl) (σ : Sg) (k : Nat) : (regOfS P σ k).code.length ≤ σ.code.length + 1 := by unfold regOfS; split <;> simp [loadS_len, Sg.newT_len]
theorem introduce_len (P : Pl) (σ : Sg) (k : Nat) : (introduce P σ k).code.length ≤ σ.code.length + 2 := by
  have h := settle_len P ((freshS P σ k).emit (.tup [.str "put_void", reg (freshR P σ k)])) k (reg (freshR P σ k))
  rw [Sg.emit_len, freshS_len] at h
  unfold introduce; split <;> omega
theorem alias_len (P : Pl) (σ : Sg) (k old : Nat) : (aliasS P σ k old).code.length ≤ σ.code.length + 2 := by
  have h := settle_len P (loadS P (freshS P σ k) old (reg (freshR P σ k))) k (reg (freshR P σ k))
  rw [loadS_len, freshS_len] at h
  have h2 : (if σ.loc old then σ.addL k else σ).code.length = σ.code.length := by split <;> rfl
  unfold aliasS
  split
  · omega
  · split
    · omega
    · split <;> rw [Sg.emit_len, Sg.see_len, h2] <;> omega
theorem uvv_len (P : Pl) (σ : Sg) (j k : Nat) : (uvv P σ j k).code.length ≤ σ.code.length + 4 := by
  have h1 := regOfS_len P σ k
  have h2 := alias_len P σ k j
  have h3 := alias_len P σ j k
  have h4 := introduce_len P σ k
  have h5 := alias_len P (introduce P σ k) j k
  have h6 := introduce_len P (introduce P σ k) j
  unfold uvv
  split
  · split
    · omega
    · split <;> rw [Sg.emit_len] <;> omega
  · split
    · omega
    · split
      · omega
      · split
        · omega
        · split <;> omega
section
variable {prog : Program} {w : World} {f : Fm} {ε : En} {H : Hp} {M : Mk} {P : Pl} {σ : Sg}
theorem me_fresh : methOk (KK w) 265 "fresh_register" 241 = true := by kernel_rfl
theorem me_settle : methOk (KK w) 265 "settle" 248 = true := by kernel_rfl
theorem me_regOf : methOk (KK w) 265 "register_of" 255 = true := by kernel_rfl
theorem me_load : methOk (KK w) 265 "load_slot" 262 = true := by kernel_rfl
theorem me_intro : methOk (KK w) 265 "introduce" 227 = true := by kernel_rfl
theorem me_alias : methOk (KK w) 265 "alias" 234 = true := by kernel_rfl
theorem me_uvv : methOk (KK w) 265 "unify_variables" 220 = true := by kernel_rfl
theorem me_uwv : methOk (KK w) 265 "unify_with_variable" 213 = true := by kernel_rfl
theorem me_unify : methOk (KK w) 265 "unify_goal" 206 = true := by kernel_rfl
theorem Mk.Ok.low (K : M.Ok P H) {k : Nat} (h : P.dom k = true) : k < 5 := by obtain ⟨_, _, _, _, _, _, _, _, _, g⟩ := K.plan; exact (g k h).1
theorem fresh_ok {k : Nat} {Q : AV → Hp → Prop} (K : M.Ok P H) (hk : P.dom k = true) (q : Q (reg (freshR P σ k)) (M.put H (freshS P σ k))) : Ct prog w 241 8 [.ref M.x, .int k] (M.put H σ) Q := by
  refine ct_def (fa := 241) (n := 7) rfl ?_ ?_ ?_ ?_ ?_ ?_ ?_ ?_
  · rfl
  · intro vs h
    rcases vs with _ | ⟨a, _ | ⟨b, _ | _⟩⟩ <;> first | rfl | (simp at h)
  · rfl
  · rfl
  · rfl
  · rfl
  · rfl
  · intro f A g L
    unfold freshR freshS at q
    refine s_cons (s_if (t_val (e_isPerm K rfl rfl (Nat.le_of_ble_eq_true rfl) (e_local rfl rfl ⟨k, rfl, hk, rfl, .inl ⟨_, rfl, fun hc => ?_, fun hc => ?_⟩⟩))))
    · rw [if_pos hc, if_pos hc] at q
      exact s_cons (s_return (e_newT K rfl rfl (Nat.le_of_ble_eq_true rfl) q))
    · rw [if_neg (by rw [hc]; decide), if_neg (by rw [hc]; decide)] at q
      exact s_nil (s_cons (s_return (e_tuple (es_cons (e_str (es_cons (e_local rfl rfl (es_nil ⟨Nat.le_of_ble_eq_true rfl, q⟩))))))))
theorem settle_ok {k : Nat} {r : AV} {Q : AV → Hp → Prop} (K : M.Ok P H) (hk : P.dom k = true) (hl : σ.code.length < 1000000) (q : Q .none (M.put H (settle P σ k r))) : Ct prog w 248 8 [.ref M.x, .int k, r] (M.put H σ) Q := by
  refine ct_def (fa := 248) (n := 7) rfl ?_ ?_ ?_ ?_ ?_ ?_ ?_ ?_
  · rfl
  · intro vs h
    rcases vs with _ | ⟨a, _ | ⟨b, _ | ⟨c, _ | _⟩⟩⟩ <;> first | rfl | (simp at h)
  · rfl
  · rfl
  · rfl
  · rfl
  · rfl
  · intro f A g L
    unfold settle at q
    refine s_cons (s_see K rfl rfl rfl rfl (K.low hk) ?_)
    refine s_cons (s_if (t_val (e_isPerm K rfl rfl (Nat.le_of_ble_eq_true rfl) (e_local rfl rfl ⟨k, rfl, hk, rfl, .inl ⟨_, rfl, fun hc => ?_, fun hc => ?_⟩⟩))))
    · rw [if_pos hc] at q
      refine s_cons (s_emit K rfl rfl (Nat.le_of_ble_eq_true rfl) (e_tuple (es_cons (e_str (es_cons (e_place K rfl rfl (Nat.le_of_ble_eq_true rfl) (e_local rfl rfl ⟨_, rfl, hk, rfl, es_cons (e_local rfl rfl (es_nil ⟨Nat.le_of_ble_eq_true rfl, _, rfl, hl, ?_⟩))⟩)))))))
      exact s_nil (s_nil q)
    · rw [if_neg (by rw [hc]; decide)] at q
      exact s_nil (s_nil q)
theorem load_ok {k : Nat} {r : AV} {Q : AV → Hp → Prop} (K : M.Ok P H) (hk : P.dom k = true) (hl : σ.code.length < 1000000) (q : Q .none (M.put H (loadS P σ k r))) : Ct prog w 262 8 [.ref M.x, .int k, r] (M.put H σ) Q := by
  refine ct_def (fa := 262) (n := 7) rfl ?_ ?_ ?_ ?_ ?_ ?_ ?_ ?_
  · rfl
  · intro vs h
    rcases vs with _ | ⟨a, _ | ⟨b, _ | ⟨c, _ | _⟩⟩⟩ <;> first | rfl | (simp at h)
  · rfl
  · rfl
  · rfl
  · rfl
  · rfl
  · intro f A g L
    unfold loadS at q
    refine s_cons (s_if (t_inLocal K rfl rfl rfl rfl (Nat.le_of_ble_eq_true rfl) ⟨fun hc => ?_, fun hc => ?_⟩))
    · rw [if_pos hc] at q
      refine s_cons (s_emit K rfl rfl (Nat.le_of_ble_eq_true rfl) (e_tuple (es_cons (e_str (es_cons (e_place K rfl rfl (Nat.le_of_ble_eq_true rfl) (e_local rfl rfl ⟨_, rfl, hk, rfl, es_cons (e_local rfl rfl (es_nil ⟨Nat.le_of_ble_eq_true rfl, _, rfl, hl, ?_⟩))⟩)))))))
      exact s_nil (s_nil q)
    · rw [if_neg (by rw [hc]; decide)] at q
      refine s_cons (s_emit K rfl rfl (Nat.le_of_ble_eq_true rfl) (e_tuple (es_cons (e_str (es_cons (e_place K rfl rfl (Nat.le_of_ble_eq_true rfl) (e_local rfl rfl ⟨_, rfl, hk, rfl, es_cons (e_local rfl rfl (es_nil ⟨Nat.le_of_ble_eq_true rfl, _, rfl, hl, ?_⟩))⟩)))))))
      exact s_nil (s_nil q)
theorem regOf_ok {k : Nat} {Q : AV → Hp → Prop} (K : M.Ok P H) (hk : P.dom k = true) (hl : σ.code.length < 1000000) (q : Q (reg (regOfR P σ k)) (M.put H (regOfS P σ k))) : Ct prog w 255 9 [.ref M.x, .int k] (M.put H σ) Q := by
  refine ct_def (fa := 255) (n := 8) rfl ?_ ?_ ?_ ?_ ?_ ?_ ?_ ?_
  · rfl
  · intro vs h
    rcases vs with _ | ⟨a, _ | ⟨b, _ | _⟩⟩ <;> first | rfl | (simp at h)
  · rfl
  · rfl
  · rfl
  · rfl
  · rfl
  · intro f A g L
    unfold regOfR regOfS at q
    refine s_cons (s_if (t_not (t_val (e_isPerm K rfl rfl (Nat.le_of_ble_eq_true rfl) (e_local rfl rfl ⟨k, rfl, hk, rfl, .inl ⟨_, rfl, fun hc => ?_, fun hc => ?_⟩⟩)))))
    · rw [if_pos hc, if_pos hc] at q
      exact s_cons (s_return (e_tuple (es_cons (e_str (es_cons (e_local rfl rfl (es_nil ⟨Nat.le_of_ble_eq_true rfl, q⟩)))))))
    · rw [if_neg (by rw [hc]; decide), if_neg (by rw [hc]; decide)] at q
      refine s_nil (s_cons (s_assign rfl (e_newT K rfl rfl (Nat.le_of_ble_eq_true rfl) ?_)))
      refine s_cons (s_expr (e_mcall K rfl rfl me_load rfl (es_cons (e_local rfl rfl (es_cons (e_local rfl rfl (es_nil (cv_def (load_ok K hk hl ⟨rfl, ?_⟩) (Nat.le_of_ble_eq_true rfl)))))))))
      exact s_cons (s_return (e_local rfl rfl q))
theorem intro_ok {k : Nat} {Q : AV → Hp → Prop} (K : M.Ok P H) (hk : P.dom k = true) (hl : σ.code.length + 2 < 1000000) (q : Q .none (M.put H (introduce P σ k))) : Ct prog w 227 9 [.ref M.x, .int k] (M.put H σ) Q := by
  refine ct_def (fa := 227) (n := 8) rfl ?_ ?_ ?_ ?_ ?_ ?_ ?_ ?_
  · rfl
  · intro vs h
    rcases vs with _ | ⟨a, _ | ⟨b, _ | _⟩⟩ <;> first | rfl | (simp at h)
  · rfl
  · rfl
  · rfl
  · rfl
  · rfl
  · intro f A g L
    unfold introduce at q
    have hfl := freshS_len P σ k
    refine s_cons (s_if (t_val (e_isVoid K rfl rfl (Nat.le_of_ble_eq_true rfl) (e_local rfl rfl ⟨k, rfl, hk, rfl, .inl ⟨_, rfl, fun hc => ?_, fun hc => ?_⟩⟩))))
    · rw [if_pos hc] at q
      exact s_cons (s_return0 q)
    · rw [if_neg (by rw [hc]; decide)] at q
      refine s_nil (s_cons (s_assign rfl (e_mcall K rfl rfl me_fresh rfl (es_cons (e_local rfl rfl (es_nil (cv_def (fresh_ok K hk ?_) (Nat.le_of_ble_eq_true rfl))))))))
      refine s_cons (s_emit K rfl rfl (Nat.le_of_ble_eq_true rfl) (e_tuple (es_cons (e_str (es_cons (e_local rfl rfl (es_nil ⟨Nat.le_of_ble_eq_true rfl, _, rfl, by omega, ?_⟩)))))))
      refine s_cons (s_expr (e_mcall K rfl rfl me_settle rfl (es_cons (e_local rfl rfl (es_cons (e_local rfl rfl (es_nil (cv_def (settle_ok K hk (by rw [Sg.emit_len]; omega) ⟨rfl, ?_⟩) (Nat.le_of_ble_eq_true rfl)))))))))
      exact s_nil q
theorem alias_ok {k old : Nat} {Q : AV → Hp → Prop} (K : M.Ok P H) (hk : P.dom k = true) (ho : P.dom old = true) (hl : σ.code.length + 2 < 1000000) (q : Q .none (M.put H (aliasS P σ k old))) : Ct prog w 234 9 [.ref M.x, .int k, .int old] (M.put H σ) Q := by
  refine ct_def (fa := 234) (n := 8) rfl ?_ ?_ ?_ ?_ ?_ ?_ ?_ ?_
  · rfl
  · intro vs h
    rcases vs with _ | ⟨a, _ | ⟨b, _ | ⟨c, _ | _⟩⟩⟩ <;> first | rfl | (simp at h)
  · rfl
  · rfl
  · rfl
  · rfl
  · rfl
  · intro f A g L
    unfold aliasS at q
    have hfl := freshS_len P σ k
    have hll := loadS_len P (freshS P σ k) old (reg (freshR P σ k))
    refine s_cons (s_if (t_val (e_isVoid K rfl rfl (Nat.le_of_ble_eq_true rfl) (e_local rfl rfl ⟨k, rfl, hk, rfl, .inl ⟨_, rfl, fun hc => ?_, fun hc => ?_⟩⟩))))
    · rw [if_pos hc] at q
      exact s_cons (s_return0 q)
    · rw [if_neg (by rw [hc]; decide)] at q
      refine s_nil (s_cons (s_if (t_val (e_isPerm K rfl rfl (Nat.le_of_ble_eq_true rfl) (e_local rfl rfl ⟨old, rfl, ho, rfl, .inl ⟨_, rfl, fun hc => ?_, fun hc => ?_⟩⟩)))))
      · rw [if_pos hc] at q
        refine s_cons (s_assign rfl (e_mcall K rfl rfl me_fresh rfl (es_cons (e_local rfl rfl (es_nil (cv_def (fresh_ok K hk ?_) (Nat.le_of_ble_eq_true rfl)))))))
        refine s_cons (s_expr (e_mcall K rfl rfl me_load rfl (es_cons (e_local rfl rfl (es_cons (e_local rfl rfl (es_nil (cv_def (load_ok K ho (by omega) ⟨rfl, ?_⟩) (Nat.le_of_ble_eq_true rfl)))))))))
        refine s_cons (s_expr (e_mcall K rfl rfl me_settle rfl (es_cons (e_local rfl rfl (es_cons (e_local rfl rfl (es_nil (cv_def (settle_ok K hk (by show (loadS P (freshS P σ k) old (reg (freshR P σ k))).code.length < 1000000; omega) ⟨rfl, ?_⟩) (Nat.le_of_ble_eq_true rfl)))))))))
        exact s_cons (s_return0 q)
      · rw [if_neg (by rw [hc]; decide)] at q
        have h2 : (if σ.loc old then σ.addL k else σ).code.length = σ.code.length := by split <;> rfl
        refine s_nil (s_cons (S1.mono (Q := fun fv ε₁ H₁ => fv = .next ∧ ε₁ = ([(("old" : Str), AV.int old), (("k" : Str), AV.int k), (("self" : Str), AV.ref M.x)] : En) ∧ H₁ = M.put H (if σ.loc old then σ.addL k else σ)) (s_if (t_inLocal K rfl rfl rfl rfl (Nat.le_of_ble_eq_true rfl) ⟨fun hc => ?_, fun hc => ?_⟩)) fun fv ε₁ H₁ ⟨e1, e2, e3⟩ => ?_))
        · refine s_cons (s_addL K rfl rfl rfl rfl (K.low hk) (s_nil ⟨rfl, rfl, ?_⟩))
          rw [if_pos hc]
        · refine s_nil ⟨rfl, rfl, ?_⟩
          rw [if_neg (by rw [hc]; decide)]
        · subst e1 e2 e3
          generalize (if σ.loc old then σ.addL k else σ) = τ at *
          refine s_cons (s_see K rfl rfl rfl rfl (K.low hk) ?_)
          refine s_cons (s_if (t_val (e_isPerm K rfl rfl (Nat.le_of_ble_eq_true rfl) (e_local rfl rfl ⟨k, rfl, hk, rfl, .inl ⟨_, rfl, fun hc => ?_, fun hc => ?_⟩⟩))))
          · rw [if_pos hc] at q
            refine s_cons (s_emit K rfl rfl (Nat.le_of_ble_eq_true rfl) (e_tuple (es_cons (e_str (es_cons (e_place K rfl rfl (Nat.le_of_ble_eq_true rfl) (e_local rfl rfl ⟨_, rfl, hk, rfl, es_cons (e_place K rfl rfl (Nat.le_of_ble_eq_true rfl) (e_local rfl rfl ⟨_, rfl, ho, rfl, es_nil ⟨Nat.le_of_ble_eq_true rfl, _, rfl, by rw [Sg.see_len]; omega, ?_⟩⟩))⟩)))))))
            exact s_nil (s_nil q)
          · rw [if_neg (by rw [hc]; decide)] at q
            refine s_cons (s_emit K rfl rfl (Nat.le_of_ble_eq_true rfl) (e_tuple (es_cons (e_str (es_cons (e_place K rfl rfl (Nat.le_of_ble_eq_true rfl) (e_local rfl rfl ⟨_, rfl, ho, rfl, es_cons (e_place K rfl rfl (Nat.le_of_ble_eq_true rfl) (e_local rfl rfl ⟨_, rfl, hk, rfl, es_nil ⟨Nat.le_of_ble_eq_true rfl, _, rfl, by rw [Sg.see_len]; omega, ?_⟩⟩))⟩)))))))
            exact s_nil (s_nil q)
end
end Mine
set_option Elab.async false
set_option linter.unusedVariables false
set_option maxRecDepth 100000
namespace Mine
open PySem PySem.W PySem.Calls PySem.Spec PyProof.Rows
noncomputable def avars (l : List Tm) : List Nat := l.flatMap Tm.vars
theorem avars_cons (t : Tm) (l : List Tm) : avars (t :: l) = t.vars ++ avars l := rfl
theorem avars_append (l k : List Tm) : avars (l ++ k) = avars l ++ avars k := by simp [avars]
theorem avars_args {t : Tm} (h : t.isS = true) : avars t.args = t.vars := by cases t with
  | s1 a => simp [avars, Tm.args, Tm.vars]
  | s2 p a b => simp [avars, Tm.args, Tm.vars]
  | _ => cases h
theorem vars_v {t : Tm} (h : t.isV = true) : t.vars = [t.var] := by cases t with
  | v k => rfl
  | _ => cases h
theorem vars_c {t : Tm} (h : t.isV = false) (h' : t.isS = false) : t.vars = [] := by cases t with
  | a n => rfl
  | i n => rfl
  | v k => cases h
  | _ => cases h'
theorem kvPut_get (k : Int) (v : AV) : ∀ (l : List (Int × AV)) (j : Int), kvGet j (kvPut k v l) = if j = k then some v else kvGet j l
  | [], j => by
    unfold kvPut kvGet
    by_cases h : k = j
    · simp [h]
    · have h' : ¬ j = k := fun e => h e.symm
      simp [h, h', kvGet]
  | p :: r, j => by
    unfold kvPut
    by_cases h : p.1 = k
    · rw [if_pos h]
      unfold kvGet
      dsimp only
      by_cases h2 : p.1 = j
      · have : j = k := h2.symm.trans h
        simp [h2, this]
      · have : ¬ j = k := fun e => h2 (h.trans e.symm)
        simp [h2, this]
    · rw [if_neg h]
      unfold kvGet
      by_cases h2 : p.1 = j
      · have : ¬ j = k := fun e => h (h2.trans e)
        simp [h2, this]
      · rw [if_neg h2, if_neg h2, kvPut_get k v r j]
theorem kvPut_len (k : Int) (v : AV) : ∀ (l : List (Int × AV)), (kvPut k v l).length ≤ l.length + 1
  | [] => Nat.le_refl _
  | p :: r => by
    unfold kvPut
    split
    · simp
    · have := kvPut_len k v r; simp; omega
theorem sub_put {H H' : Hp} {a : Addr} {o : AO} (h : Sub H H') (ha : H a = none) : Sub H (H'.put a o) := fun b ob e => by
  rw [put_ne (fun z => by rw [z, ha] at e; cases e)]
  exact h _ _ e
section
variable {prog : Program} {w : World} {f : Fm} {ε : En} {H : Hp} {M : Mk} {P : Pl} {σ : Sg}
set_option maxHeartbeats 1000000 in
theorem varsOf_ok {t : Tm} {ta : Addr} {Q : AV → Hp → Prop} (hta : H ta = some (.list [t.enc])) (hz : t.size < 1000)
    (q : ∀ y (ns : List Nat), H y = none → (∀ k, k ∈ ns ↔ k ∈ t.vars) → ns.length < 2000 → Q (.ref y) (H.put y (.list (avi (ns.map fun k : Nat => (k : Int)))))) : Ct prog w 35 8 [.ref ta] H Q := by
  refine Ct.weak (ct_def (fa := 35) (n := 7) rfl ?_ ?_ ?_ ?_ ?_ ?_ ?_ ?_)
  · rfl
  · intro vs h
    rcases vs with _ | ⟨a, _ | _⟩ <;> first | rfl | (simp at h)
  · rfl
  · rfl
  · rfl
  · rfl
  · rfl
  · intro f A g L
    refine s_cons (s_assign rfl (e_dict0 fun d hd hdm => ?_))
    refine s_cons (s_assign rfl (e_list (es_nil ⟨Nat.le_of_ble_eq_true rfl, fun y hy => ?_⟩)))
    have hta2 : ((H.put d (.dict [])).put y (.list [])) ta = some (.list [t.enc]) := put_old hy (put_old hd hta)
    refine s_cons (s_assign rfl (e_callT (by kernel_rfl) rfl (by decide) rfl (es_cons (e_callT (by kernel_rfl) rfl (by decide) rfl (es_cons (e_local rfl rfl (es_nil (rv_of_list hta2 fun ri hri => es_nil ?_))))))))
    refine cv_listR (x := ta) (l := [t.enc]) (H₀ := (H.put d (.dict [])).put y (.list [])) (put_get _ _ _) hri (Sub.fresh hri) hta2 (Nat.le_of_ble_eq_true rfl) fun td htd => ?_
    obtain ⟨ndy, hy0⟩ := put_none hy
    obtain ⟨nty, htd⟩ := put_none htd
    obtain ⟨ntd, htd0⟩ := put_none htd
    refine s_cons (s_while (fun m ε H' => ∃ (stk : List Tm) (l : List (Int × AV)) (ns : List Nat), ssum stk ≤ m ∧ ns.length + m < 2000 ∧ ε.get "todo" = some (.ref td) ∧ ε.get "seen" = some (.ref d) ∧ ε.get "result" = some (.ref y) ∧
      l.length ≤ ns.length ∧ (∀ k : Nat, (kvGet k l).isSome = true ↔ k ∈ ns) ∧ (∀ k, (k ∈ ns ∨ k ∈ avars stk) ↔ k ∈ t.vars) ∧
      H' = ((H.put d (.dict l)).put y (.list (avi (ns.map fun k : Nat => (k : Int))))).put td (.list (stk.reverse.map Tm.enc))) t.size
      ⟨[t], [], [], by simp [ssum], by simp; omega, rfl, rfl, rfl, Nat.le_refl _, by intro k; simp [kvGet], by intro k; simp [avars], rfl⟩ ?_)
    intro m ε H' hh
    refine Exists.elim hh fun stk hh1 => Exists.elim hh1 fun l hh2 => Exists.elim hh2 fun ns hh3 => and9 hh3 fun hs hb h1 h2 h3 hl hk hv hq08 => ?_
    clear hh3 hh2 hh1 hh
    subst hq08
    have hlen : stk.length ≤ m := by
      refine Nat.le_trans ?_ hs
      clear hv hs
      induction stk with
      | nil => exact Nat.zero_le _
      | cons p r ih => have := p.size_pos; rw [ssum_cons, List.length_cons]; omega
    have G1 : ∀ o1 o2 o3, (((H.put d o1).put y o2).put td o3) td = some o3 := fun _ _ _ => put_get _ _ _
    have G2 : ∀ o1 o2 o3, (((H.put d o1).put y o2).put td o3) y = some o2 := fun _ _ _ => by rw [put_ne nty.symm, put_get]
    have G3 : ∀ o1 o2 o3, (((H.put d o1).put y o2).put td o3) d = some o1 := fun _ _ _ => by rw [put_ne ntd.symm, put_ne ndy.symm, put_get]
    have P1 : ∀ o1 o2 o3 o, (((H.put d o1).put y o2).put td o3).put td o = ((H.put d o1).put y o2).put td o := fun _ _ _ _ => put_put _ _ _ _
    have P2 : ∀ o1 o2 o3 o, (((H.put d o1).put y o2).put td o3).put y o = ((H.put d o1).put y o).put td o3 := fun _ _ _ _ => by rw [put_comm nty, put_put]
    have P3 : ∀ o1 o2 o3 o, (((H.put d o1).put y o2).put td o3).put d o = ((H.put d o).put y o2).put td o3 := fun _ _ _ _ => by rw [put_comm ntd, put_comm ndy, put_put]
    refine t_val (e_local h1 rfl (.inr ⟨td, _, rfl, G1 _ _ _, by simp; omega, fun hc => ?_, fun hc => ?_⟩))
    · rcases stk with _ | ⟨u, stk⟩
      · simp at hc
      rw [ssum_cons] at hs
      have hup := u.size_pos
      obtain ⟨m, rfl⟩ : ∃ k, m = k + 1 := ⟨m - 1, by omega⟩
      have e3 : (u :: stk).reverse.map Tm.enc = stk.reverse.map Tm.enc ++ [u.enc] := by rw [List.reverse_cons, List.map_append]; rfl
      rw [e3]
      refine s_cons (s_assign rfl (e_methB0 (e_local h1 rfl ⟨td, _, rfl, mb_pop (G1 _ _ _), cv_pop (G1 _ _ _) (by simp at hlen ⊢; omega) ?_⟩)))
      rw [P1, Tm.enc_eq]
      refine s_cons (s_if (t_cmp (Nat.le_of_ble_eq_true rfl) (e_tm rfl rfl u.body0 rfl (e_str ⟨_, c_seq _ _, fun hc => ?_, fun hc => ?_⟩))))
      · rw [Tm.tag_v] at hc
        have hvv := vars_v hc
        refine s_cons (s_if (t_cmp (Nat.le_of_ble_eq_true rfl) (e_tm rfl rfl u.body1 rfl (e_local (by exact h2) rfl ⟨_, c_notInD _ (G3 _ _ _) hdm, fun hc2 => ?_, fun hc2 => ?_⟩))))
        · rw [Tm.snd_var hc] at hc2
          have hnk : ¬ u.var ∈ ns := fun h => by rw [(hk _).mpr h] at hc2; cases hc2
          refine s_cons (s_setItemD (e_bool (e_local (by exact h2) rfl (e_tm rfl rfl u.body1 rfl ⟨d, l, u.snd, rfl, G3 _ _ _, rfl, by omega, ?_⟩))))
          rw [P3]
          refine s_cons (s_expr (e_methB (e_local (by exact h3) rfl ⟨y, _, rfl, mb_append (G2 _ _ _), es_cons (e_tm rfl rfl u.body1 rfl (es_nil (cv_append (G2 _ _ _) (by simp [avi]; omega) ⟨rfl, ?_⟩)))⟩)))
          rw [P2, Tm.snd_var hc]
          refine s_nil (s_nil (s_nil ⟨m, Nat.lt_succ_self _, stk, kvPut u.var (.bool true) l, ns ++ [u.var], by omega, by simp; omega, h1, h2, h3, ?_, ?_, ?_, ?_⟩))
          · have := kvPut_len u.var (.bool true) l; simp; omega
          · intro k
            rw [kvPut_get]
            by_cases h : k = u.var
            · subst h; simp
            · rw [if_neg (by omega), hk]; simp [h]
          · intro k
            rw [← hv k, avars_cons, hvv]
            simp only [List.mem_append, List.mem_singleton]
            exact or_assoc
          · congr 2
            simp [avi]
        · rw [Tm.snd_var hc] at hc2
          have hnk : u.var ∈ ns := (hk _).mp (by cases q0 : (kvGet (u.var : Int) l).isSome with
            | true => rfl
            | false => rw [q0] at hc2; cases hc2)
          refine s_nil (s_nil (s_nil ⟨m, Nat.lt_succ_self _, stk, l, ns, by omega, by omega, h1, h2, h3, hl, hk, ?_, rfl⟩))
          intro k
          rw [← hv k, avars_cons, hvv]
          simp only [List.mem_append, List.mem_singleton]
          constructor
          · rintro (h | h)
            · exact .inl h
            · exact .inr (.inr h)
          · rintro (h | h | h)
            · exact .inl h
            · subst h; exact .inl hnk
            · exact .inr h
      · rw [Tm.tag_v] at hc
        refine s_cons (s_if (t_cmp (Nat.le_of_ble_eq_true rfl) (e_tm rfl rfl u.body0 rfl (e_str ⟨_, c_seq _ _, fun hc2 => ?_, fun hc2 => ?_⟩))))
        · rw [Tm.tag_s] at hc2
          have hsz := Tm.size_args hc2
          have hal := u.args_len
          refine s_cons (s_expr (e_methB (e_local (by exact h1) rfl ⟨td, _, rfl, mb_extend (G1 _ _ _), es_cons (e_callT (by kernel_rfl) rfl (by decide) rfl (es_cons (e_tm rfl rfl (Tm.body2 hc2) rfl (es_nil (rv_of_tup (by simp; omega) fun ri hri => es_nil ?_))))) ⟩)))
          refine cv_extendR (H₀ := ((H.put d (.dict l)).put y (.list (avi (ns.map fun k : Nat => (k : Int))))).put td (.list (stk.reverse.map Tm.enc))) (put_get _ _ _) hri (Sub.fresh hri) (G1 _ _ _) (by simp at hlen ⊢; omega) ⟨rfl, ?_⟩
          rw [P1]
          refine s_nil (s_nil (s_nil ⟨m, Nat.lt_succ_self _, u.args ++ stk, l, ns, by rw [ssum_append]; omega, by omega, h1, h2, h3, hl, hk, ?_, ?_⟩))
          · intro k
            rw [← hv k, avars_cons, avars_append, avars_args hc2]
          · rw [List.reverse_append, List.map_append, List.map_reverse (l := u.args)]
        · rw [Tm.tag_s] at hc2
          refine s_nil (s_nil (s_nil ⟨m, Nat.lt_succ_self _, stk, l, ns, by omega, by omega, h1, h2, h3, hl, hk, ?_, rfl⟩))
          intro k
          rw [← hv k, avars_cons, vars_c hc hc2]
          simp
    · have : stk = [] := by
        cases stk with
        | nil => rfl
        | cons p r => simp at hc
      subst this
      refine s_cons (s_return (e_local h3 rfl ⟨_, ?_, q y ns hy0 (fun k => by rw [← hv k]; simp [avars]) (by omega)⟩))
      refine sub_put (put_sub (Sub.fresh hd) _ _) ?_
      rw [put_ne nty]; exact htd0
theorem vars_ok {t : Tm} {Q : AV → Hp → Prop} (hz : t.size < 1000)
    (q : ∀ y (ns : List Nat), H y = none → (∀ k, k ∈ ns ↔ k ∈ t.vars) → ns.length < 2000 → Q (.ref y) (H.put y (.list (avi (ns.map fun k : Nat => (k : Int)))))) : Ct prog w 28 9 [t.enc] H Q := by
  refine Ct.weak (ct_def (fa := 28) (n := 8) rfl ?_ ?_ ?_ ?_ ?_ ?_ ?_ ?_)
  · rfl
  · intro vs h
    rcases vs with _ | ⟨a, _ | _⟩ <;> first | rfl | (simp at h)
  · rfl
  · rfl
  · rfl
  · rfl
  · rfl
  · intro f A g L
    refine s_cons (s_return (e_call (fa := .ref 35) (by kernel_rfl) (by kernel_rfl) rfl (es_cons (e_list (es_cons (e_local rfl rfl (es_nil ⟨Nat.le_of_ble_eq_true rfl, fun ta hta => es_nil ?_⟩)))))))
    refine cv_def (varsOf_ok (put_get _ _ _) hz fun y ns hy hm hl => ?_) (Nat.le_of_ble_eq_true rfl)
    obtain ⟨ne, hy0⟩ := put_none hy
    exact ⟨_, put_sub (Sub.fresh hta) _ _, q y ns hy0 hm hl⟩
end
end Mine
set_option Elab.async false
set_option linter.unusedVariables false
set_option maxRecDepth 100000
namespace Mine
open PySem PySem.W PySem.Calls PySem.Spec PyProof.Rows
/-- what k needs ahead of the term -/
noncomputable def uwPre (P : Pl) (σ : Sg) (k : Nat) (t : Tm) : Sg := if !σ.seen k && t.vars.contains k then introduce P σ k else σ
noncomputable def uwSeen (P : Pl) (σ : Sg) (k : Nat) (t : Tm) : Sg :=
  if t.isS then matchRun P t.size (regOfS P σ k) [(t, reg (regOfR P σ k))] else (regOfS P σ k).emit (.tup [.str "get_constant", t.cc, reg (regOfR P σ k)])
noncomputable def uwVoid (P : Pl) (σ : Sg) (t : Tm) : Sg := if t.isS then buildRun P σ.nxt (2 * t.size) σ.newT [(false, t)] [] else σ
noncomputable def uwPut (P : Pl) (σ : Sg) (k : Nat) (t : Tm) : Sg :=
  if t.isS then buildRun P (freshR P σ k) (2 * t.size) (freshS P σ k) [(false, t)] [] else (freshS P σ k).emit (.tup [.str "put_constant", t.cc, reg (freshR P σ k)])
noncomputable def uwRest (P : Pl) (σ : Sg) (k : Nat) (t : Tm) : Sg :=
  if σ.seen k then uwSeen P σ k t else if P.vd k then uwVoid P σ t else settle P (uwPut P σ k t) k (reg (freshR P σ k))
noncomputable def uwv (P : Pl) (σ : Sg) (k : Nat) (t : Tm) : Sg := if t.isV then uvv P σ k t.var else uwRest P (uwPre P σ k t) k t
theorem uwPre_len (P : Pl) (σ : Sg) (k : Nat) (t : Tm) : (uwPre P σ k t).code.length ≤ σ.code.length + 2 := by
  have := introduce_len P σ k
  unfold uwPre; split <;> omega
theorem uwSeen_len (P : Pl) (σ : Sg) (k : Nat) (t : Tm) : (uwSeen P σ k t).code.length ≤ σ.code.length + 6 * t.size + 2 := by
  have h1 := regOfS_len P σ k
  have h2 := matchRun_len P t.size (regOfS P σ k) [(t, reg (regOfR P σ k))]
  unfold uwSeen; split
  · omega
  · rw [Sg.emit_len]; omega
theorem build_len (P : Pl) (tg : Int) (σ : Sg) {t : Tm} (ht : t.isS = true) (hd : t.dom P) : (buildRun P tg (2 * t.size) σ [(false, t)] []).code.length ≤ σ.code.length + 12 * t.size := by
  have := buildRun_len P tg (2 * t.size) σ [(false, t)] [] (by intro p hp; rw [List.mem_singleton.mp hp]; exact ⟨ht, hd⟩) trivial
  omega
theorem uwVoid_len (P : Pl) (σ : Sg) {t : Tm} (hd : t.dom P) : (uwVoid P σ t).code.length ≤ σ.code.length + 12 * t.size := by
  unfold uwVoid; split
  · rename_i h; have := build_len P σ.nxt σ.newT h hd; rw [Sg.newT_len] at this; exact this
  · omega
theorem uwPut_len (P : Pl) (σ : Sg) (k : Nat) {t : Tm} (hd : t.dom P) : (uwPut P σ k t).code.length ≤ σ.code.length + 12 * t.size := by
  have hp := t.size_pos
  unfold uwPut; split
  · rename_i h; have := build_len P (freshR P σ k) (freshS P σ k) h hd; rw [freshS_len] at this; exact this
  · rw [Sg.emit_len, freshS_len]; omega
theorem uwv_len (P : Pl) (σ : Sg) (k : Nat) {t : Tm} (hd : t.dom P) : (uwv P σ k t).code.length ≤ σ.code.length + 12 * t.size + 4 := by
  have h0 := uvv_len P σ k t.var
  have h1 := uwPre_len P σ k t
  have h2 := uwSeen_len P (uwPre P σ k t) k t
  have h3 := uwVoid_len P (uwPre P σ k t) hd
  have h4 := uwPut_len P (uwPre P σ k t) k hd
  have h5 := settle_len P (uwPut P (uwPre P σ k t) k t) k (reg (freshR P (uwPre P σ k t) k))
  unfold uwv uwRest
  split
  · omega
  · split
    · omega
    · split <;> omega
noncomputable def sameFn (t u : Tm) : Bool := t.isS && u.isS && t.snd == u.snd
noncomputable def clash (t u : Tm) : Bool := t.isS || u.isS || !(t == u)
noncomputable def unifyRun (P : Pl) : Nat → Sg → List (Tm × Tm) → Sg
  | 0, σ, _ => σ
  | _ + 1, σ, [] => σ
  | n + 1, σ, p :: stk =>
    let one := if !p.1.isV && p.2.isV then p.2 else p.1
    let other := if !p.1.isV && p.2.isV then p.1 else p.2
    if one.isV then unifyRun P n (uwv P σ one.var other) stk
    else if sameFn one other then unifyRun P n σ (one.args.zip other.args ++ stk)
    else if clash one other then unifyRun P n (σ.emit (.tup [.str "fail"])) stk
    else unifyRun P n σ stk
theorem unifyRun_nil (P : Pl) (n : Nat) (σ : Sg) : unifyRun P n σ [] = σ := by cases n <;> rfl
section
variable {prog : Program} {w : World} {f : Fm} {ε : En} {H : Hp} {M : Mk} {P : Pl} {σ : Sg}
theorem uvv_ok {j k : Nat} {Q : AV → Hp → Prop} (K : M.Ok P H) (hj : P.dom j = true) (hk : P.dom k = true) (hl : σ.code.length + 4 < 1000000) (q : Q .none (M.put H (uvv P σ j k))) : Ct prog w 220 10 [.ref M.x, .int j, .int k] (M.put H σ) Q := by
  refine ct_def (fa := 220) (n := 9) rfl ?_ ?_ ?_ ?_ ?_ ?_ ?_ ?_
  · rfl
  · intro vs h
    rcases vs with _ | ⟨a, _ | ⟨b, _ | ⟨c, _ | _⟩⟩⟩ <;> first | rfl | (simp at h)
  · rfl
  · rfl
  · rfl
  · rfl
  · rfl
  · intro f A g L
    unfold uvv at q
    have hrl := regOfS_len P σ k
    have hil := introduce_len P σ k
    refine s_cons (s_if (T1.mono (Q := fun b H₁ => b = (σ.seen j && σ.seen k) ∧ H₁ = M.put H σ) ?_ fun b H₁ ⟨eb, eH⟩ => ⟨fun hb => ?_, fun hb => ?_⟩))
    · refine t_and (t_inSeen K rfl rfl rfl rfl (Nat.le_of_ble_eq_true rfl) ⟨fun hc => ?_, fun hc => ?_⟩)
      · rw [hc]; exact ⟨rfl, rfl⟩
      · refine t_and (t_inSeen K rfl rfl rfl rfl (Nat.le_of_ble_eq_true rfl) ⟨fun hc2 => ?_, fun hc2 => ?_⟩)
        · rw [hc, hc2]; exact ⟨rfl, rfl⟩
        · exact t_and0 ⟨by rw [hc, hc2]; rfl, rfl⟩
    · subst eH
      rw [hb] at eb
      rw [if_pos eb.symm] at q
      refine s_cons (s_if (t_cmp (Nat.le_of_ble_eq_true rfl) (e_local rfl rfl (e_local rfl rfl ⟨_, c_eq _ _, fun hc => ?_, fun hc => ?_⟩))))
      · have : j = k := by have := beq_iff_eq.mp hc; omega
        rw [if_pos this] at q
        exact s_cons (s_return0 q)
      · have : ¬ j = k := fun e => by subst e; simp at hc
        rw [if_neg this] at q
        refine s_nil (s_cons (s_if (t_val (e_isPerm K rfl rfl (Nat.le_of_ble_eq_true rfl) (e_local rfl rfl ⟨j, rfl, hj, rfl, .inl ⟨_, rfl, fun hc => ?_, fun hc => ?_⟩⟩)))))
        · rw [if_pos hc] at q
          refine s_cons (s_emit K rfl rfl (Nat.le_of_ble_eq_true rfl) (e_tuple (es_cons (e_str (es_cons (e_place K rfl rfl (Nat.le_of_ble_eq_true rfl) (e_local rfl rfl ⟨_, rfl, hj, rfl, es_cons (e_mcall K rfl rfl me_regOf rfl (es_cons (e_local rfl rfl (es_nil (cv_def (regOf_ok K hk (by omega) (es_nil ⟨Nat.le_of_ble_eq_true rfl, _, rfl, by omega, ?_⟩)) (Nat.le_of_ble_eq_true rfl))))))⟩)))))))
          repeat (first | exact q | refine s_nil ?_)
        · rw [if_neg (by rw [hc]; decide)] at q
          refine s_cons (s_emit K rfl rfl (Nat.le_of_ble_eq_true rfl) (e_tuple (es_cons (e_str (es_cons (e_place K rfl rfl (Nat.le_of_ble_eq_true rfl) (e_local rfl rfl ⟨_, rfl, hk, rfl, es_cons (e_place K rfl rfl (Nat.le_of_ble_eq_true rfl) (e_local rfl rfl ⟨_, rfl, hj, rfl, es_nil ⟨Nat.le_of_ble_eq_true rfl, _, rfl, by omega, ?_⟩⟩))⟩)))))))
          repeat (first | exact q | refine s_nil ?_)
    · subst eH
      rw [hb] at eb
      rw [if_neg (by rw [← eb]; decide)] at q
      refine s_cons (s_if (t_inSeen K rfl rfl rfl rfl (Nat.le_of_ble_eq_true rfl) ⟨fun hc => ?_, fun hc => ?_⟩))
      · rw [if_pos hc] at q
        refine s_cons (s_expr (e_mcall K rfl rfl me_alias rfl (es_cons (e_local rfl rfl (es_cons (e_local rfl rfl (es_nil (cv_def (alias_ok K hk hj (by omega) ⟨rfl, ?_⟩) (Nat.le_of_ble_eq_true rfl)))))))))
        repeat (first | exact q | refine s_nil ?_)
      · rw [if_neg (by rw [hc]; decide)] at q
        refine s_cons (s_if (t_inSeen K rfl rfl rfl rfl (Nat.le_of_ble_eq_true rfl) ⟨fun hc => ?_, fun hc => ?_⟩))
        · rw [if_pos hc] at q
          refine s_cons (s_expr (e_mcall K rfl rfl me_alias rfl (es_cons (e_local rfl rfl (es_cons (e_local rfl rfl (es_nil (cv_def (alias_ok K hj hk (by omega) ⟨rfl, ?_⟩) (Nat.le_of_ble_eq_true rfl)))))))))
          repeat (first | exact q | refine s_nil ?_)
        · rw [if_neg (by rw [hc]; decide)] at q
          refine s_cons (s_expr (e_mcall K rfl rfl me_intro rfl (es_cons (e_local rfl rfl (es_nil (cv_def (intro_ok K hk (by omega) ⟨rfl, ?_⟩) (Nat.le_of_ble_eq_true rfl)))))))
          refine s_cons (s_if (t_cmp (Nat.le_of_ble_eq_true rfl) (e_local rfl rfl (e_local rfl rfl ⟨_, c_ne _ _, fun hc => ?_, fun hc => ?_⟩))))
          · have : ¬ j = k := fun e => by subst e; simp at hc
            rw [if_neg this] at q
            refine s_cons (s_if (t_inSeen K rfl rfl rfl rfl (Nat.le_of_ble_eq_true rfl) ⟨fun hc => ?_, fun hc => ?_⟩))
            · rw [if_pos hc] at q
              refine s_cons (s_expr (e_mcall K rfl rfl me_alias rfl (es_cons (e_local rfl rfl (es_cons (e_local rfl rfl (es_nil (cv_def (alias_ok K hj hk (by omega) ⟨rfl, ?_⟩) (Nat.le_of_ble_eq_true rfl)))))))))
              repeat (first | exact q | refine s_nil ?_)
            · rw [if_neg (by rw [hc]; decide)] at q
              refine s_cons (s_expr (e_mcall K rfl rfl me_intro rfl (es_cons (e_local rfl rfl (es_nil (cv_def (intro_ok K hj (by omega) ⟨rfl, ?_⟩) (Nat.le_of_ble_eq_true rfl)))))))
              repeat (first | exact q | refine s_nil ?_)
          · have : j = k := by
              by_cases e : j = k
              · exact e
              · have : ((j : Int) != (k : Int)) = true := by simp; omega
                rw [this] at hc; cases hc
            rw [if_pos this] at q
            repeat (first | exact q | refine s_nil ?_)
theorem any_cast (ns : List Nat) (k : Nat) : ((ns.map fun k : Nat => (k : Int)).any (· == (k : Int))) = ns.contains k := by
  induction ns with
  | nil => rfl
  | cons a r ih =>
    rw [List.map_cons, List.any_cons, ih, List.contains_cons]
    congr 1
    rw [Bool.eq_iff_iff, beq_iff_eq, beq_iff_eq]
    omega
theorem uwv_ok {k : Nat} {t : Tm} {Q : AV → Hp → Prop} (K : M.Ok P H) (hk : P.dom k = true) (hd : t.dom P) (hl : σ.code.length + 12 * t.size + 20 < 1000000) (hz : t.size < 400) (q : Q .none (M.put H (uwv P σ k t))) : Ct prog w 213 16 [.ref M.x, .int k, t.enc] (M.put H σ) Q := by
  refine Ct.weak (ct_def (fa := 213) (n := 15) rfl ?_ ?_ ?_ ?_ ?_ ?_ ?_ ?_)
  · rfl
  · intro vs h
    rcases vs with _ | ⟨a, _ | ⟨b, _ | ⟨c, _ | _⟩⟩⟩ <;> first | rfl | (simp at h)
  · rfl
  · rfl
  · rfl
  · rfl
  · rfl
  · intro f A g L
    have he := t.enc_eq
    have hsz := t.size_pos
    unfold uwv at q
    refine s_cons (s_if (t_cmp (Nat.le_of_ble_eq_true rfl) (e_tm (l := t.body) (by rw [he]; rfl) rfl t.body0 rfl (e_str ⟨_, c_seq _ _, fun hc => ?_, fun hc => ?_⟩))))
    · rw [Tm.tag_v] at hc
      rw [if_pos hc] at q
      refine s_cons (s_expr (e_mcall K rfl rfl me_uvv rfl (es_cons (e_local rfl rfl (es_cons (e_tm (l := t.body) (by rw [he]; rfl) rfl t.body1 rfl (es_nil ?_)))))))
      rw [Tm.snd_var hc]
      refine cv_def (uvv_ok K hk (Tm.dom_var hc hd) (by omega) ⟨rfl, ?_⟩) (Nat.le_of_ble_eq_true rfl)
      exact s_cons (s_return0 ⟨_, Sub.refl _, q⟩)
    · rw [Tm.tag_v] at hc
      rw [if_neg (by rw [hc]; decide)] at q
      -- the first test: the variables of the term are listed
      refine s_nil (s_cons (S1.mono (Q := fun fv ε₁ H₁ => fv = .next ∧ ε₁ = ([(("term" : Str), t.enc), (("k" : Str), AV.int k), (("self" : Str), AV.ref M.x)] : En) ∧ H₁ = M.put H (uwPre P σ k t)) (S1.weakP (s_if (T1.mono (Q := fun b H₁ => b = (!σ.seen k && t.vars.contains k) ∧ ∃ H', H₁ = M.put H' σ ∧ M.Ok P H' ∧ Sub H H') ?_ fun b H₁ ⟨eb, H', eH, K', hsub⟩ => ⟨fun hb => ?_, fun hb => ?_⟩))) fun fv ε₁ H₁ ⟨e1, e2, e3⟩ => ?_))
      · refine t_and (t_notSeen K rfl rfl rfl rfl (Nat.le_of_ble_eq_true rfl) ⟨fun hc => ?_, fun hc => ?_⟩)
        · rw [hc]; exact ⟨rfl, H, rfl, K, Sub.refl _⟩
        · refine t_and (t_cmp (Nat.le_of_ble_eq_true rfl) (e_local rfl rfl (e_call (fa := .ref 28) (by kernel_rfl) (by kernel_rfl) rfl (es_cons (e_local rfl rfl (es_nil (cv_def (vars_ok (by omega) fun y ns hy hm hlen => ?_) (Nat.le_of_ble_eq_true rfl))))))))
          obtain ⟨K', e4⟩ := K.new (.list (avi (ns.map fun k : Nat => (k : Int)))) hy
          have ec : ns.contains k = t.vars.contains k := by
            rw [Bool.eq_iff_iff]
            simp only [List.contains_iff_mem]
            exact hm k
          refine ⟨_, c_inL _ (put_get _ _ _), fun hc2 => ?_, fun hc2 => ?_⟩
          · rw [any_cast, ec] at hc2
            rw [hc, hc2]
            exact ⟨rfl, _, e4, K', Sub.fresh (K.sub.none hy)⟩
          · rw [any_cast, ec] at hc2
            exact t_and0 ⟨by rw [hc, hc2]; rfl, _, e4, K', Sub.fresh (K.sub.none hy)⟩
      · subst eH
        rw [hb] at eb
        refine s_cons (s_expr (e_mcall K' rfl rfl me_intro rfl (es_cons (e_local rfl rfl (es_nil (cv_def (intro_ok K' hk (by omega) ⟨rfl, ?_⟩) (Nat.le_of_ble_eq_true rfl)))))))
        refine s_nil ⟨_, _, fun _ _ h => h, M.subPut hsub _, rfl, rfl, ?_⟩
        unfold uwPre
        rw [if_pos eb.symm]
      · subst eH
        rw [hb] at eb
        refine s_nil ⟨_, _, fun _ _ h => h, M.subPut hsub _, rfl, rfl, ?_⟩
        unfold uwPre
        rw [if_neg (by rw [← eb]; decide)]
      · subst e1 e2 e3
        have hpl := uwPre_len P σ k t
        generalize uwPre P σ k t = τ at *
        unfold uwRest at q
        have hrl := regOfS_len P τ k
        have hfl := freshS_len P τ k
        have hup := uwPut_len P τ k hd
        refine s_cons (s_if (t_inSeen K rfl rfl rfl rfl (Nat.le_of_ble_eq_true rfl) ⟨fun hc2 => ?_, fun hc2 => ?_⟩))
        · rw [if_pos hc2] at q
          unfold uwSeen at q
          refine s_cons (s_assign rfl (e_mcall K rfl rfl me_regOf rfl (es_cons (e_local rfl rfl (es_nil (cv_def (regOf_ok K hk (by omega) ?_) (Nat.le_of_ble_eq_true rfl)))))))
          refine s_cons (s_if (t_cmp (Nat.le_of_ble_eq_true rfl) (e_tm (l := t.body) (by rw [he]; rfl) rfl t.body0 rfl (e_str ⟨_, c_seq _ _, fun hc => ?_, fun hc => ?_⟩))))
          · rw [Tm.tag_s] at hc
            rw [if_pos hc] at q
            refine s_cons (s_expr (e_mcall K rfl rfl me_match rfl (es_cons (e_local rfl rfl (es_cons (e_local rfl rfl (es_nil (cv_def (match_ok K hc hd (by omega) (by omega) ⟨rfl, ?_⟩) (Nat.le_of_ble_eq_true rfl)))))))))
            repeat (first | exact ⟨_, Sub.refl _, q⟩ | refine s_nil ?_)
          · rw [Tm.tag_s] at hc
            rw [if_neg (by rw [hc]; decide)] at q
            refine s_cons (s_emit K rfl rfl (Nat.le_of_ble_eq_true rfl) (e_tuple (es_cons (e_str (es_cons (e_cc rfl (Nat.le_of_ble_eq_true rfl) (e_local rfl rfl ⟨t, rfl, es_cons (e_local rfl rfl (es_nil ⟨Nat.le_of_ble_eq_true rfl, _, rfl, by omega, ?_⟩))⟩)))))))
            repeat (first | exact ⟨_, Sub.refl _, q⟩ | refine s_nil ?_)
        · rw [if_neg (by rw [hc2]; decide)] at q
          refine s_cons (s_if (t_val (e_isVoid K rfl rfl (Nat.le_of_ble_eq_true rfl) (e_local rfl rfl ⟨k, rfl, hk, rfl, .inl ⟨_, rfl, fun hc3 => ?_, fun hc3 => ?_⟩⟩))))
          · rw [if_pos hc3] at q
            unfold uwVoid at q
            refine s_cons (s_if (t_cmp (Nat.le_of_ble_eq_true rfl) (e_tm (l := t.body) (by rw [he]; rfl) rfl t.body0 rfl (e_str ⟨_, c_seq _ _, fun hc => ?_, fun hc => ?_⟩))))
            · rw [Tm.tag_s] at hc
              rw [if_pos hc] at q
              refine s_cons (s_expr (e_mcall K rfl rfl me_build rfl (es_cons (e_local rfl rfl (es_cons (e_newT K rfl rfl (Nat.le_of_ble_eq_true rfl) (es_nil (cv_def (build_ok K hc hd (by rw [Sg.newT_len]; omega) hz ⟨rfl, ?_⟩) (Nat.le_of_ble_eq_true rfl)))))))))
              repeat (first | exact ⟨_, Sub.refl _, q⟩ | refine s_nil ?_)
            · rw [Tm.tag_s] at hc
              rw [if_neg (by rw [hc]; decide)] at q
              repeat (first | exact ⟨_, Sub.refl _, q⟩ | refine s_nil ?_)
          · rw [if_neg (by rw [hc3]; decide)] at q
            refine s_cons (s_assign rfl (e_mcall K rfl rfl me_fresh rfl (es_cons (e_local rfl rfl (es_nil (cv_def (fresh_ok K hk ?_) (Nat.le_of_ble_eq_true rfl)))))))
            refine s_cons (S1.mono (Q := fun fv ε₁ H₁ => fv = .next ∧ ε₁ = ([(("register" : Str), reg (freshR P τ k)), (("term" : Str), t.enc), (("k" : Str), AV.int k), (("self" : Str), AV.ref M.x)] : En) ∧ H₁ = M.put H (uwPut P τ k t)) (s_if (t_cmp (Nat.le_of_ble_eq_true rfl) (e_tm (l := t.body) (by rw [he]; rfl) rfl t.body0 rfl (e_str ⟨_, c_seq _ _, fun hc => ?_, fun hc => ?_⟩)))) fun fv ε₁ H₁ ⟨e1, e2, e3⟩ => ?_)
            · subst e1 e2 e3
              refine s_cons (s_expr (e_mcall K rfl rfl me_settle rfl (es_cons (e_local rfl rfl (es_cons (e_local rfl rfl (es_nil (cv_def (settle_ok K hk (by omega) ⟨rfl, ?_⟩) (Nat.le_of_ble_eq_true rfl)))))))))
              repeat (first | exact ⟨_, Sub.refl _, q⟩ | refine s_nil ?_)
            · rw [Tm.tag_s] at hc
              refine s_cons (s_expr (e_mcall K rfl rfl me_build rfl (es_cons (e_local rfl rfl (es_cons (e_local rfl rfl (es_nil (cv_def (build_ok K hc hd (by omega) hz ⟨rfl, ?_⟩) (Nat.le_of_ble_eq_true rfl)))))))))
              refine s_nil ⟨rfl, rfl, ?_⟩
              unfold uwPut; rw [if_pos hc]
            · rw [Tm.tag_s] at hc
              refine s_cons (s_emit K rfl rfl (Nat.le_of_ble_eq_true rfl) (e_tuple (es_cons (e_str (es_cons (e_cc rfl (Nat.le_of_ble_eq_true rfl) (e_local rfl rfl ⟨t, rfl, es_cons (e_local rfl rfl (es_nil ⟨Nat.le_of_ble_eq_true rfl, _, rfl, by omega, ?_⟩))⟩)))))))
              refine s_nil ⟨rfl, rfl, ?_⟩
              unfold uwPut; rw [if_neg (by rw [hc]; decide)]
end
end Mine
set_option Elab.async false
set_option linter.unusedVariables false
set_option maxRecDepth 100000
namespace Mine
open PySem PySem.W PySem.Calls PySem.Spec PyProof.Rows
noncomputable def pe (p : Tm × Tm) : AV := .tup [p.1.enc, p.2.enc]
noncomputable def psum (l : List (Tm × Tm)) : Nat := (l.map fun p => p.1.size + p.2.size).sum
theorem psum_cons (p : Tm × Tm) (l : List (Tm × Tm)) : psum (p :: l) = p.1.size + p.2.size + psum l := by simp [psum]
theorem psum_append (l k : List (Tm × Tm)) : psum (l ++ k) = psum l + psum k := by simp [psum]
theorem psum_zip : ∀ (l k : List Tm), psum (l.zip k) ≤ ssum l + ssum k
  | [], _ => by simp [psum]
  | _ :: _, [] => by simp [psum]
  | t :: r, u :: s => by
    have := psum_zip r s
    rw [List.zip_cons_cons, psum_cons, ssum_cons, ssum_cons]
    dsimp only
    omega
theorem sameFn_len {t u : Tm} (h : sameFn t u = true) : t.isS = true ∧ u.isS = true ∧ t.args.length = u.args.length := by
  unfold sameFn at h
  simp only [Bool.and_eq_true, beq_iff_eq] at h
  refine ⟨h.1.1, h.1.2, ?_⟩
  cases t with
  | s1 a => cases u with
    | s1 b => rfl
    | s2 p b c => have := h.2; cases p <;> simp [Tm.snd] at this
    | _ => cases h.1.2
  | s2 q a d => cases u with
    | s1 b => have := h.2; cases q <;> simp [Tm.snd] at this
    | s2 p b c => rfl
    | _ => cases h.1.2
  | _ => cases h.1.1
theorem tag_fit (t : Tm) : PyData.strOk t.tag = true := by
  have h1 : PyData.strOk ("v" : Str) = true := by kernel_rfl
  have h2 : PyData.strOk ("a" : Str) = true := by kernel_rfl
  have h3 : PyData.strOk ("i" : Str) = true := by kernel_rfl
  have h4 : PyData.strOk ("s" : Str) = true := by kernel_rfl
  cases t <;> assumption
theorem body_n {t : Tm} (h : t.isS = false) : t.body = [.str t.tag, .int t.snd] := by unfold Tm.body; rw [if_neg (by rw [h]; decide)]
theorem body_fit {t : Tm} (h : t.isS = false) : ∀ d ∈ t.body, fit 8 d = true := by
  rw [body_n h]
  intro d hd
  simp only [List.mem_cons, List.not_mem_nil, or_false] at hd
  rcases hd with rfl | rfl
  · exact tag_fit t
  · rfl
theorem body_eqv {t u : Tm} (ht : t.isS = false) (hu : u.isS = false) : PyData.eqvAll (pds t.body) (pds u.body) = (t == u) := by
  rw [body_n ht, body_n hu]
  simp only [pds, pd, PyData.eqvAll, PyData.eqv, Bool.and_true]
  rw [Bool.eq_iff_iff]
  simp only [Bool.and_eq_true, beq_iff_eq]
  cases t with
  | v k => cases u with
    | v j => simp [Tm.tag, Tm.snd]; omega
    | a n => simp only [Tm.tag]; constructor <;> intro h <;> first | exact absurd h.1 (by decide) | cases h
    | i n => simp only [Tm.tag]; constructor <;> intro h <;> first | exact absurd h.1 (by decide) | cases h
    | _ => cases hu
  | a n => cases u with
    | v j => simp only [Tm.tag]; constructor <;> intro h <;> first | exact absurd h.1 (by decide) | cases h
    | a m => simp [Tm.tag, Tm.snd]
    | i m => simp only [Tm.tag]; constructor <;> intro h <;> first | exact absurd h.1 (by decide) | cases h
    | _ => cases hu
  | i n => cases u with
    | v j => simp only [Tm.tag]; constructor <;> intro h <;> first | exact absurd h.1 (by decide) | cases h
    | a m => simp only [Tm.tag]; constructor <;> intro h <;> first | exact absurd h.1 (by decide) | cases h
    | i m => simp [Tm.tag, Tm.snd]
    | _ => cases hu
  | _ => cases ht
section
variable {prog : Program} {w : World} {f : Fm} {ε : En} {H : Hp} {M : Mk} {P : Pl} {σ : Sg}
theorem unify_ok {t u : Tm} {Q : AV → Hp → Prop} (K : M.Ok P H) (hdt : t.dom P) (hdu : u.dom P) (hl : σ.code.length + 16 * (t.size + u.size) + 60 < 1000000) (hz : t.size + u.size < 390)
    (q : Q .none (M.put H (unifyRun P (t.size + u.size) σ [(t, u)]))) : Ct prog w 206 18 [.ref M.x, t.enc, u.enc] (M.put H σ) Q := by
  refine Ct.weak (ct_def (fa := 206) (n := 17) rfl ?_ ?_ ?_ ?_ ?_ ?_ ?_ ?_)
  · rfl
  · intro vs h
    rcases vs with _ | ⟨a, _ | ⟨b, _ | ⟨c, _ | _⟩⟩⟩ <;> first | rfl | (simp at h)
  · rfl
  · rfl
  · rfl
  · rfl
  · rfl
  · intro f A g L
    refine s_cons (s_assign rfl (e_list (es_cons (e_tuple (es_cons (e_local rfl rfl (es_cons (e_local rfl rfl (es_nil ⟨Nat.le_of_ble_eq_true rfl, es_nil ⟨Nat.le_of_ble_eq_true rfl, fun wt hn => ?_⟩⟩)))))))))
    obtain ⟨K0, e0⟩ := K.new (.list [pe (t, u)]) hn
    have e00 : (M.put H σ).put wt (.list [AV.tup [t.enc, u.enc]]) = M.put (H.put wt (.list [pe (t, u)])) σ := e0
    rw [e00]
    generalize hfin : unifyRun P (t.size + u.size) σ [(t, u)] = fin at q
    have kk : ∀ l τ, M.Ok P (H.put wt (.list l)) ∧ ∀ k, (M.put (H.put wt (.list l)) τ).put wt (.list k) = M.put (H.put wt (.list k)) τ := fun l τ => by
      have A1 := (K0.turnL (σ := σ) (put_get H wt _) l).1
      rw [put_put] at A1
      refine ⟨A1, fun k => ?_⟩
      have := (A1.turnL (σ := τ) (put_get H wt _) k).2
      rw [put_put] at this
      exact this
    have hw1 : ∀ l τ, M.put (H.put wt (.list l)) τ wt = some (.list l) := fun l τ => (kk l τ).1.sub _ _ (put_get _ _ _)
    refine s_cons (s_while (fun m ε H' => ∃ σ' stk, psum stk ≤ m ∧ m < 390 ∧ (∀ p ∈ stk, p.1.dom P ∧ p.2.dom P) ∧ ε.get "self" = some (.ref M.x) ∧ ε.get "pairs" = some (.ref wt) ∧
      H' = M.put (H.put wt (.list (stk.reverse.map pe))) σ' ∧ unifyRun P m σ' stk = fin ∧ σ'.code.length + 16 * psum stk + 60 < 1000000) (t.size + u.size) ⟨σ, [(t, u)], by simp [psum], hz, by intro p hp; rw [List.mem_singleton.mp hp]; exact ⟨hdt, hdu⟩, rfl, rfl, rfl, hfin, by simpa [psum] using hl⟩ ?_)
    intro m ε H' hh
    refine Exists.elim hh fun σ' hh1 => Exists.elim hh1 fun stk hh2 => and8 hh2 fun hs hm hp h1 h2 hq05 hf hb => ?_
    clear hh2 hh1 hh
    subst hq05
    have hlen : stk.length ≤ m := by
      refine Nat.le_trans ?_ hs
      clear hp hf hs hb
      induction stk with
      | nil => exact Nat.zero_le _
      | cons p r ih => have := p.1.size_pos; rw [psum_cons, List.length_cons]; omega
    refine t_cmp (Nat.le_of_ble_eq_true rfl) (e_callB (by kernel_rfl) rfl (by decide) rfl (es_cons (e_local h2 rfl (es_nil (cv_len (hw1 _ _) (by simp; omega) (e_int ⟨_, c_gt _ _, fun hc => ?_, fun hc => ?_⟩))))))
    · rcases stk with _ | ⟨⟨x, y⟩, stk⟩
      · simp at hc
      obtain ⟨hdx, hdy⟩ := hp _ (.head _)
      dsimp only at hdx hdy
      rw [psum_cons] at hs hb
      dsimp only at hs hb
      have hxp := x.size_pos
      have hyp := y.size_pos
      obtain ⟨m, rfl⟩ : ∃ k, m = k + 1 := ⟨m - 1, by omega⟩
      unfold unifyRun at hf
      dsimp only at hf
      have e3 : ((x, y) :: stk).reverse.map pe = stk.reverse.map pe ++ [pe (x, y)] := by rw [List.reverse_cons, List.map_append]; rfl
      rw [e3]
      refine s_cons (s_pair rfl rfl (e_methB0 (e_local h2 rfl ⟨wt, _, rfl, mb_pop (hw1 _ _), cv_pop (hw1 _ _) (by simp at hlen ⊢; omega) ⟨_, _, rfl, ?_⟩⟩)))
      rw [(kk _ _).2]
      have K2 := (kk (stk.reverse.map pe) σ').1
      -- the two in order
      refine s_cons (S1.mono (Q := fun fv ε₁ H₁ => fv = .next ∧ ε₁.get "self" = some (.ref M.x) ∧ ε₁.get "pairs" = some (.ref wt) ∧ ε₁.get "one" = some (if !x.isV && y.isV then y else x).enc ∧ ε₁.get "other" = some (if !x.isV && y.isV then x else y).enc ∧
          H₁ = M.put (H.put wt (.list (stk.reverse.map pe))) σ') (s_if (T1.mono (Q := fun b H₁ => b = (!x.isV && y.isV) ∧ H₁ = M.put (H.put wt (.list (stk.reverse.map pe))) σ') ?_ fun b H₁ ⟨eb, eH⟩ => ⟨fun hb => ?_, fun hb => ?_⟩)) fun fv ε₁ H₁ ⟨e1, g1, g2, g3, g4, e2⟩ => ?_)
      · refine t_and (t_cmp (Nat.le_of_ble_eq_true rfl) (e_tm (l := x.body) (by rw [x.enc_eq]; rfl) rfl x.body0 rfl (e_str ⟨_, c_sne _ _, fun hc => ?_, fun hc => ?_⟩)))
        · have : x.isV = true := by rw [← Tm.tag_v]; simpa [bne] using hc
          rw [this]; exact ⟨rfl, rfl⟩
        · have hxv : x.isV = false := by rw [← Tm.tag_v]; simpa [bne] using hc
          refine t_and (t_cmp (Nat.le_of_ble_eq_true rfl) (e_tm (l := y.body) (by rw [y.enc_eq]; rfl) rfl y.body0 rfl (e_str ⟨_, c_seq _ _, fun hc => ?_, fun hc => ?_⟩)))
          · rw [Tm.tag_v] at hc; rw [hxv, hc]; exact ⟨rfl, rfl⟩
          · rw [Tm.tag_v] at hc; exact t_and0 ⟨by rw [hxv, hc]; rfl, rfl⟩
      · subst eH
        rw [hb] at eb
        refine s_cons (s_swap rfl rfl (e_tuple (es_cons (e_local rfl rfl (es_cons (e_local rfl rfl (es_nil ⟨Nat.le_of_ble_eq_true rfl, _, _, rfl, ?_⟩)))))))
        refine s_nil ⟨rfl, h1, h2, ?_, ?_, rfl⟩
        · rw [if_pos eb.symm]; rfl
        · rw [if_pos eb.symm]; rfl
      · subst eH
        rw [hb] at eb
        refine s_nil ⟨rfl, h1, h2, ?_, ?_, rfl⟩
        · rw [if_neg (by rw [← eb]; decide)]; rfl
        · rw [if_neg (by rw [← eb]; decide)]; rfl
      · subst e1 e2
        have hd1 : (if !x.isV && y.isV then y else x).dom P := by split <;> assumption
        have hd2 : (if !x.isV && y.isV then x else y).dom P := by split <;> assumption
        have hss : (if !x.isV && y.isV then y else x).size + (if !x.isV && y.isV then x else y).size = x.size + y.size := by split <;> omega
        generalize (if !x.isV && y.isV then y else x) = one at *
        generalize (if !x.isV && y.isV then x else y) = other at *
        have h1p := one.size_pos
        have h2p := other.size_pos
        have hul := uwv_len P σ' one.var hd2
        rw [Tm.enc_eq] at g3 g4
        refine s_cons (s_if (t_cmp (Nat.le_of_ble_eq_true rfl) (e_tm g3 rfl one.body0 rfl (e_str ⟨_, c_seq _ _, fun hc => ?_, fun hc => ?_⟩))))
        · rw [Tm.tag_v] at hc
          rw [if_pos hc] at hf
          refine s_cons (s_expr (e_mcall K2 g1 rfl me_uwv rfl (es_cons (e_tm g3 rfl one.body1 rfl (es_cons (e_local g4 rfl (es_nil ?_)))))))
          rw [Tm.snd_var hc, ← Tm.enc_eq]
          refine cv_def (uwv_ok K2 (Tm.dom_var hc hd1) hd2 (by omega) (by omega) ⟨rfl, ?_⟩) (Nat.le_of_ble_eq_true rfl)
          exact s_nil (s_nil ⟨m, Nat.lt_succ_self _, _, stk, by omega, by omega, fun p h => hp p (.tail _ h), g1, g2, rfl, hf, by omega⟩)
        · rw [Tm.tag_v] at hc
          rw [if_neg (by rw [hc]; decide)] at hf
          refine s_cons (s_if (T1.mono (Q := fun b H₁ => b = sameFn one other ∧ H₁ = M.put (H.put wt (.list (stk.reverse.map pe))) σ') ?_ fun b H₁ ⟨eb, eH⟩ => ⟨fun hb => ?_, fun hb => ?_⟩))
          · refine t_and (t_cmp (Nat.le_of_ble_eq_true rfl) (e_tm g3 rfl one.body0 rfl (e_str ⟨_, c_seq _ _, fun hc => ?_, fun hc => ?_⟩)))
            · rw [Tm.tag_s] at hc; unfold sameFn; rw [hc]; exact ⟨rfl, rfl⟩
            · rw [Tm.tag_s] at hc
              refine t_and (t_cmp (Nat.le_of_ble_eq_true rfl) (e_tm g4 rfl other.body0 rfl (e_str ⟨_, c_seq _ _, fun hc2 => ?_, fun hc2 => ?_⟩)))
              · rw [Tm.tag_s] at hc2; unfold sameFn; rw [hc, hc2]; exact ⟨rfl, rfl⟩
              · rw [Tm.tag_s] at hc2
                refine t_and (t_cmp (Nat.le_of_ble_eq_true rfl) (e_tm g3 rfl one.body1 rfl (e_tm g4 rfl other.body1 rfl ⟨_, c_eq _ _, fun hc3 => ?_, fun hc3 => ?_⟩)))
                · unfold sameFn; rw [hc, hc2, hc3]; exact ⟨rfl, rfl⟩
                · exact t_and0 ⟨by unfold sameFn; rw [hc, hc2, hc3]; rfl, rfl⟩
          · subst eH
            rw [hb] at eb
            rw [if_pos eb.symm] at hf
            obtain ⟨hs1, hs2, hal⟩ := sameFn_len eb.symm
            have hz1 := Tm.size_args hs1
            have hz2 := Tm.size_args hs2
            have ha2 := one.args_len
            refine s_cons (s_assign rfl (e_sub (e_callB (by kernel_rfl) rfl (by decide) rfl (es_cons (e_tm g3 rfl (Tm.body2 hs1) rfl (es_nil (cv_lenT (by simp; omega) (e_int ⟨_, _, rfl, rfl, ?_⟩))))))))
            have hzl : (one.args.zip other.args).length = one.args.length := by rw [List.length_zip]; omega
            generalize hzs : one.args.zip other.args = zs at *
            refine s_cons (s_while (fun j ε H' => j ≤ zs.length ∧ ε.get "self" = some (.ref M.x) ∧ ε.get "pairs" = some (.ref wt) ∧ ε.get "one" = some (.tup one.body) ∧ ε.get "other" = some (.tup other.body) ∧ ε.get "at" = some (.int ((j : Int) - 1)) ∧
              H' = M.put (H.put wt (.list (stk.reverse.map pe ++ (zs.drop j).reverse.map pe))) σ') zs.length ⟨Nat.le_refl _, g1, g2, g3, g4, by rw [List.length_map, ← hzl]; rfl, by rw [List.drop_length]; simp⟩ ?_)
            intro j ε₂ H₂ hh
            refine and7 hh fun hj k1 k2 k3 k4 k5 hq06 => ?_
            clear hh
            subst hq06
            refine t_cmp (Nat.le_of_ble_eq_true rfl) (e_local k5 rfl (e_int ⟨_, c_ge _ _, fun hc => ?_, fun hc => ?_⟩))
            · have hj1 : 1 ≤ j := by have := of_decide_eq_true hc; omega
              obtain ⟨j, rfl⟩ : ∃ k, j = k + 1 := ⟨j - 1, by omega⟩
              have ej : ((j + 1 : Nat) : Int) - 1 = ((j : Nat) : Int) := by omega
              rw [ej] at k5
              have hjo : j < one.args.length := by omega
              have hju : j < other.args.length := by omega
              have ez : zs[j]'(by omega) = (one.args[j], other.args[j]) := by subst hzs; rw [List.getElem_zip]
              have ed : (zs.drop j).reverse.map pe = (zs.drop (j + 1)).reverse.map pe ++ [AV.tup [one.args[j].enc, other.args[j].enc]] := by
                rw [← List.getElem_cons_drop (by omega : j < zs.length), List.reverse_cons, List.map_append, ez]; rfl
              refine s_cons (s_expr (e_methB (e_local k2 rfl ⟨wt, _, rfl, mb_append (hw1 _ _), es_cons (e_tuple (es_cons (e_itemX (e_tm k3 rfl (Tm.body2 hs1) rfl (e_local k5 rfl ⟨j, _, one.args[j].enc, rfl, by omega, by rw [List.getElem?_map, List.getElem?_eq_getElem hjo]; rfl,
                (es_cons (e_itemX (e_tm k4 rfl (Tm.body2 hs2) rfl (e_local k5 rfl ⟨j, _, other.args[j].enc, rfl, by omega, by rw [List.getElem?_map, List.getElem?_eq_getElem hju]; rfl, es_nil ⟨Nat.le_of_ble_eq_true rfl, es_nil (cv_append (hw1 _ _) (by simp at hlen ⊢; omega) ⟨rfl, ?_⟩)⟩, .inl rfl⟩)))), .inl rfl⟩)))))⟩)))
              rw [(kk _ _).2]
              refine s_cons (s_augSub k5 rfl (e_int ⟨_, rfl, ?_⟩))
              refine s_nil ⟨j, Nat.lt_succ_self _, by omega, k1, k2, k3, k4, rfl, ?_⟩
              rw [ed, List.append_assoc]
            · have hj0 : j = 0 := by have := of_decide_eq_false hc; omega
              subst hj0
              have hzp := psum_zip one.args other.args
              rw [hzs] at hzp
              refine s_nil (s_nil (s_nil ⟨m, Nat.lt_succ_self _, σ', zs ++ stk, by rw [psum_append]; omega, by omega, ?_, k1, k2, ?_, hf, by rw [psum_append]; omega⟩))
              · intro p hp'
                rcases List.mem_append.mp hp' with h | h
                · rw [← hzs] at h
                  have := List.of_mem_zip h
                  exact ⟨Tm.dom_args hd1 this.1, Tm.dom_args hd2 this.2⟩
                · exact hp _ (.tail _ h)
              · rw [List.reverse_append, List.map_append, List.drop_zero]
          · subst eH
            rw [hb] at eb
            rw [if_neg (by rw [← eb]; decide)] at hf
            refine s_cons (s_if (T1.mono (Q := fun b H₁ => b = clash one other ∧ H₁ = M.put (H.put wt (.list (stk.reverse.map pe))) σ') ?_ fun b H₁ ⟨eb, eH⟩ => ⟨fun hb => ?_, fun hb => ?_⟩))
            · refine t_or (t_cmp (Nat.le_of_ble_eq_true rfl) (e_tm g3 rfl one.body0 rfl (e_str ⟨_, c_seq _ _, fun hc => ?_, fun hc => ?_⟩)))
              · rw [Tm.tag_s] at hc; unfold clash; rw [hc]; exact ⟨rfl, rfl⟩
              · rw [Tm.tag_s] at hc
                refine t_or (t_cmp (Nat.le_of_ble_eq_true rfl) (e_tm g4 rfl other.body0 rfl (e_str ⟨_, c_seq _ _, fun hc2 => ?_, fun hc2 => ?_⟩)))
                · rw [Tm.tag_s] at hc2; unfold clash; rw [hc, hc2]; exact ⟨rfl, rfl⟩
                · rw [Tm.tag_s] at hc2
                  refine t_or (t_cmp (Nat.le_of_ble_eq_true rfl) (e_local g3 rfl (e_local g4 rfl ⟨_, c_neT (body_fit hc) (body_fit hc2), fun hc3 => ?_, fun hc3 => ?_⟩)))
                  · rw [body_eqv hc hc2] at hc3; unfold clash; rw [hc, hc2, hc3]; exact ⟨rfl, rfl⟩
                  · rw [body_eqv hc hc2] at hc3; exact t_or0 ⟨by unfold clash; rw [hc, hc2, hc3]; rfl, rfl⟩
            · subst eH
              rw [hb] at eb
              rw [if_pos eb.symm] at hf
              refine s_cons (s_emit K2 g1 rfl (Nat.le_of_ble_eq_true rfl) (e_tuple (es_cons (e_str (es_nil ⟨Nat.le_of_ble_eq_true rfl, _, rfl, by omega, ?_⟩)))))
              exact s_nil (s_nil (s_nil (s_nil ⟨m, Nat.lt_succ_self _, _, stk, by omega, by omega, fun p h => hp p (.tail _ h), g1, g2, rfl, hf, by rw [Sg.emit_len]; omega⟩)))
            · subst eH
              rw [hb] at eb
              rw [if_neg (by rw [← eb]; decide)] at hf
              exact s_nil (s_nil (s_nil (s_nil ⟨m, Nat.lt_succ_self _, _, stk, by omega, by omega, fun p h => hp p (.tail _ h), g1, g2, rfl, hf, by omega⟩)))
    · have : stk = [] := by
        cases stk with
        | nil => rfl
        | cons p r => simp at hc
      subst this
      rw [unifyRun_nil] at hf
      subst hf
      exact s_nil ⟨_, M.subPut (Sub.fresh (K.sub.none hn)) _, q⟩
end
end Mine
set_option Elab.async false
set_option linter.unusedVariables false
set_option maxRecDepth 100000
namespace Mine
open PySem PySem.W PySem.Calls PySem.Spec PyProof.Rows
/-! the plain law -/
noncomputable def strangers : Tm → Tm → Bool
  | .v j, .v k => j != k
  | .s1 t, .s1 u => strangers t u
  | .s2 p t u, .s2 q t' u' => if p == q then strangers t t' || strangers u u' else false
  | _, _ => false
noncomputable def swp (p : Tm × Tm) : Tm × Tm := (p.2, p.1)
theorem sameFn_comm (t u : Tm) : sameFn t u = sameFn u t := by
  unfold sameFn
  rw [Bool.eq_iff_iff]
  simp only [Bool.and_eq_true, beq_iff_eq]
  constructor <;> (rintro ⟨⟨a, b⟩, c⟩; exact ⟨⟨b, a⟩, c.symm⟩)
theorem clash_comm (t u : Tm) : clash t u = clash u t := by
  unfold clash
  have : (t == u) = (u == t) := by
    rw [Bool.eq_iff_iff, beq_iff_eq, beq_iff_eq]
    exact ⟨fun h => h.symm, fun h => h.symm⟩
  rw [this, Bool.or_comm t.isS u.isS]
theorem strangers_args {t u : Tm} (h : sameFn t u = true) (hs : strangers t u = false) : ∀ p ∈ t.args.zip u.args, strangers p.1 p.2 = false := by
  unfold sameFn at h
  simp only [Bool.and_eq_true, beq_iff_eq] at h
  cases t with
  | s1 a => cases u with
    | s1 b =>
      intro p hp
      have hp' : p = (a, b) := by simpa [Tm.args] using hp
      subst hp'; exact hs
    | s2 q b c => have := h.2; cases q <;> simp [Tm.snd] at this
    | _ => cases h.1.2
  | s2 q a d => cases u with
    | s1 b => have := h.2; cases q <;> simp [Tm.snd] at this
    | s2 r b c =>
      have hq : q = r := by have := h.2; cases q <;> cases r <;> simp [Tm.snd] at this <;> rfl
      subst hq
      have hs' : strangers a b = false ∧ strangers d c = false := by
        unfold strangers at hs
        rw [if_pos (by simp)] at hs
        exact Bool.or_eq_false_iff.mp hs
      intro p hp
      have hp' : p = (a, b) ∨ p = (d, c) := by simpa [Tm.args] using hp
      rcases hp' with rfl | rfl
      · exact hs'.1
      · exact hs'.2
    | _ => cases h.1.2
  | _ => cases h.1.1
theorem zip_swp : ∀ (l k : List Tm), k.zip l = (l.zip k).map swp
  | [], k => by cases k <;> rfl
  | _ :: _, [] => rfl
  | t :: r, u :: s => by rw [List.zip_cons_cons, List.zip_cons_cons, List.map_cons, zip_swp r s]; rfl
theorem unify_swap (P : Pl) : ∀ (n : Nat) (σ : Sg) (stk : List (Tm × Tm)), (∀ p ∈ stk, strangers p.1 p.2 = false) → unifyRun P n σ (stk.map swp) = unifyRun P n σ stk
  | 0, _, _, _ => rfl
  | _ + 1, _, [], _ => rfl
  | n + 1, σ, (x, y) :: stk, h => by
    have hr : ∀ p ∈ stk, strangers p.1 p.2 = false := fun p hp => h p (.tail _ hp)
    have hxy : strangers x y = false := h _ (.head _)
    rw [List.map_cons]
    show unifyRun P (n + 1) σ ((y, x) :: stk.map swp) = _
    unfold unifyRun
    dsimp only
    cases hx : x.isV with
    | true =>
      cases hy : y.isV with
      | true =>
        have : x = y := by
          cases x with
          | v j => cases y with
            | v k =>
              unfold strangers at hxy
              have : j = k := by simpa using hxy
              rw [this]
            | _ => cases hy
          | _ => cases hx
        subst this
        simp only [hx, Bool.not_true, Bool.false_and, Bool.false_eq_true, if_false, if_true]
        exact unify_swap P n _ stk hr
      | false =>
        simp only [hx, hy, Bool.not_true, Bool.not_false, Bool.false_and, Bool.true_and, Bool.and_true, Bool.and_false, Bool.false_eq_true, if_false, if_true]
        exact unify_swap P n _ stk hr
    | false =>
      cases hy : y.isV with
      | true =>
        simp only [hx, hy, Bool.not_true, Bool.not_false, Bool.false_and, Bool.true_and, Bool.and_true, Bool.and_false, Bool.false_eq_true, if_false, if_true]
        exact unify_swap P n _ stk hr
      | false =>
        simp only [hx, hy, Bool.not_true, Bool.not_false, Bool.false_and, Bool.true_and, Bool.and_true, Bool.and_false, Bool.false_eq_true, if_false, if_true]
        rw [sameFn_comm y x, clash_comm y x]
        split
        · rename_i hs
          rw [zip_swp x.args y.args, ← List.map_append]
          refine unify_swap P n _ _ fun p hp => ?_
          rcases List.mem_append.mp hp with hp | hp
          · exact strangers_args hs hxy p hp
          · exact hr p hp
        · split
          · exact unify_swap P n _ stk hr
          · exact unify_swap P n _ stk hr
theorem unify_swap1 (P : Pl) (σ : Sg) {t u : Tm} (h : strangers t u = false) : unifyRun P (u.size + t.size) σ [(u, t)] = unifyRun P (t.size + u.size) σ [(t, u)] := by
  rw [Nat.add_comm u.size t.size]
  exact unify_swap P _ σ [(t, u)] (by intro p hp; rw [List.mem_singleton.mp hp]; exact h)
/-- a term with itself: its variables are introduced in their order -/
noncomputable def introAll (P : Pl) (σ : Sg) (ks : List Nat) : Sg := ks.foldl (fun σ k => uvv P σ k k) σ
noncomputable def diag (t : Tm) : Tm × Tm := (t, t)
theorem zip_diag : ∀ l : List Tm, l.zip l = l.map diag
  | [] => rfl
  | t :: r => by rw [List.zip_cons_cons, zip_diag r]; rfl
theorem unify_diag (P : Pl) : ∀ (n : Nat) (σ : Sg) (l : List Tm), ssum l ≤ n → unifyRun P n σ (l.map diag) = introAll P σ (avars l)
  | 0, σ, l, h => by
    cases l with
    | nil => rfl
    | cons t r => rw [ssum_cons] at h; have := t.size_pos; omega
  | n + 1, σ, [], _ => rfl
  | n + 1, σ, t :: r, h => by
    rw [ssum_cons] at h
    have hp := t.size_pos
    rw [List.map_cons, avars_cons]
    unfold introAll
    rw [List.foldl_append]
    unfold unifyRun
    dsimp only [diag]
    have e0 : (!t.isV && t.isV) = false := by cases t.isV <;> rfl
    simp only [e0, Bool.false_eq_true, if_false]
    cases hv : t.isV with
    | true =>
      rw [if_pos rfl, vars_v hv]
      have e1 : uwv P σ t.var t = uvv P σ t.var t.var := by unfold uwv; rw [if_pos hv]
      rw [e1]
      exact unify_diag P n _ r (by omega)
    | false =>
      rw [if_neg (by decide)]
      cases hs : t.isS with
      | true =>
        have e1 : sameFn t t = true := by unfold sameFn; simp [hs]
        have hz := Tm.size_args hs
        rw [if_pos e1, zip_diag, ← List.map_append, unify_diag P n σ (t.args ++ r) (by rw [ssum_append]; omega), avars_append, avars_args hs]
        unfold introAll
        rw [List.foldl_append]
      | false =>
        have e1 : sameFn t t = false := by unfold sameFn; simp [hs]
        have e2 : clash t t = false := by unfold clash; simp [hs]
        rw [if_neg (by rw [e1]; decide), if_neg (by rw [e2]; decide), vars_c hv hs]
        exact unify_diag P n _ r (by omega)
theorem unify_self (P : Pl) (σ : Sg) (t : Tm) : unifyRun P (t.size + t.size) σ [(t, t)] = introAll P σ t.vars := by
  have := unify_diag P (t.size + t.size) σ [t] (by simp [ssum])
  simpa [diag, avars] using this
theorem uvv_self (P : Pl) (σ : Sg) (k : Nat) : uvv P σ k k = if σ.seen k then σ else introduce P σ k := by
  unfold uvv
  cases h : σ.seen k <;> simp
/-- what the law says is due -/
noncomputable def dueStep (P : Pl) (σ : Sg) (k : Nat) : Sg :=
  if σ.seen k then σ
  else if 0 < P.sl k then { code := σ.code ++ [.tup [.str "put_void", reg σ.nxt]] ++ [.tup [.str "get_variable", .tup [.str "y", .int (P.sl k)], reg σ.nxt]], seen := Sadd σ.seen k, loc := σ.loc, nxt := σ.nxt + 1 }
  else { code := σ.code ++ [.tup [.str "put_void", reg k]], seen := Sadd σ.seen k, loc := σ.loc, nxt := σ.nxt }
theorem due_intro (P : Pl) (σ : Sg) (k : Nat) (hv : P.vd k = false) (hp : 0 < P.sl k ↔ P.pm k = true) : uvv P σ k k = dueStep P σ k := by
  rw [uvv_self]
  unfold dueStep introduce settle freshS freshR Pl.plc
  rw [if_neg (c := P.vd k = true) (by rw [hv]; decide)]
  cases h : P.pm k with
  | true =>
    have : 0 < P.sl k := hp.mpr h
    simp only [this, if_true]
    rfl
  | false =>
    have : ¬ 0 < P.sl k := fun x => by have := hp.mp x; rw [h] at this; cases this
    simp only [this, if_false, Bool.false_eq_true]
    rfl
noncomputable def dueAll (P : Pl) (σ : Sg) (ks : List Nat) : Sg := ks.foldl (dueStep P) σ
theorem due_all (P : Pl) : ∀ (ks : List Nat) (σ : Sg), (∀ k ∈ ks, P.vd k = false ∧ (0 < P.sl k ↔ P.pm k = true)) → introAll P σ ks = dueAll P σ ks
  | [], _, _ => rfl
  | k :: r, σ, h => by
    have h1 := h k (.head _)
    unfold introAll dueAll
    rw [List.foldl_cons, List.foldl_cons, due_intro P σ k h1.1 h1.2]
    exact due_all P r _ fun j hj => h j (.tail _ hj)
theorem dueStep_seen (P : Pl) (σ : Sg) (k : Nat) : (dueStep P σ k).seen = Sadd σ.seen k := by
  unfold dueStep
  split
  · rename_i h; exact (Sadd_of _ _ h).symm
  · split <;> rfl
theorem dueAll_mono (P : Pl) : ∀ (ks : List Nat) (σ : Sg) (j : Int), σ.seen j = true → (dueAll P σ ks).seen j = true
  | [], _, _, h => h
  | k :: r, σ, j, h => by
    unfold dueAll
    rw [List.foldl_cons]
    exact dueAll_mono P r _ j (by rw [dueStep_seen]; unfold Sadd; rw [h]; rfl)
theorem dueAll_seen (P : Pl) : ∀ (ks : List Nat) (σ : Sg), ∀ k ∈ ks, (dueAll P σ ks).seen k = true
  | [], _, _, h => by cases h
  | k :: r, σ, j, h => by
    unfold dueAll
    rw [List.foldl_cons]
    rcases List.mem_cons.mp h with rfl | h
    · exact dueAll_mono P r _ _ (by rw [dueStep_seen]; unfold Sadd; simp)
    · exact dueAll_seen P r _ j h
theorem dueAll_id (P : Pl) : ∀ (ks : List Nat) (σ : Sg), (∀ k ∈ ks, σ.seen k = true) → dueAll P σ ks = σ
  | [], _, _ => rfl
  | k :: r, σ, h => by
    unfold dueAll
    rw [List.foldl_cons]
    have e : dueStep P σ k = σ := by unfold dueStep; rw [if_pos (h k (.head _))]
    rw [e]
    exact dueAll_id P r σ fun j hj => h j (.tail _ hj)
theorem dueStep_len (P : Pl) (σ : Sg) (k : Nat) : (dueStep P σ k).code.length ≤ σ.code.length + 2 := by
  unfold dueStep
  split
  · omega
  · split <;> simp
theorem dueAll_len (P : Pl) : ∀ (ks : List Nat) (σ : Sg), (dueAll P σ ks).code.length ≤ σ.code.length + 2 * ks.length
  | [], _ => Nat.le_refl _
  | k :: r, σ => by
    have h1 := dueStep_len P σ k
    have h2 := dueAll_len P r (dueStep P σ k)
    unfold dueAll at h2 ⊢
    rw [List.foldl_cons, List.length_cons]
    omega
theorem vars_len : ∀ t : Tm, t.vars.length ≤ t.size
  | .v k => by simp [Tm.vars, Tm.size]
  | .a n => by simp [Tm.vars, Tm.size]
  | .i n => by simp [Tm.vars, Tm.size]
  | .s1 t => by have := vars_len t; simp [Tm.vars, Tm.size]; omega
  | .s2 p t u => by have := vars_len t; have := vars_len u; simp [Tm.vars, Tm.size]; omega
end Mine
set_option Elab.async false
set_option linter.unusedVariables false
set_option maxRecDepth 100000
namespace Mine
open PySem PySem.W PySem.Calls PySem.Spec PyProof.Rows
structure Tp where
  (t c : Addr)
structure Ts where
  cells : List Int
  pos : Nat
  cnt : Int
noncomputable def Tp.put (T : Tp) (H : Hp) (τ : Ts) : Hp := (H.put T.t (.list [.ref T.c, .int τ.pos, .int τ.cnt])).put T.c (.list (avi τ.cells))
structure Tp.Ok (T : Tp) (H : Hp) (τ : Ts) : Prop where
  ht : H T.t = none
  hc : H T.c = none
  ne : T.t ≠ T.c
  len : τ.cells.length ≤ 60
section
variable {T : Tp} {H : Hp} {τ : Ts}
theorem Tp.Ok.pt (K : T.Ok H τ) : T.put H τ T.t = some (.list [.ref T.c, .int τ.pos, .int τ.cnt]) := by unfold Tp.put; rw [put_ne K.ne, put_get]
theorem Tp.Ok.pc (K : T.Ok H τ) : T.put H τ T.c = some (.list (avi τ.cells)) := put_get _ _ _
theorem Tp.Ok.sub (K : T.Ok H τ) : Sub H (T.put H τ) := fun a o e => by
  unfold Tp.put
  rw [put_ne (fun z => by rw [z, K.hc] at e; cases e), put_ne (fun z => by rw [z, K.ht] at e; cases e)]; exact e
theorem Tp.Ok.new (K : T.Ok H τ) {a : Addr} (o : AO) (h : T.put H τ a = none) : T.Ok (H.put a o) τ ∧ (T.put H τ).put a o = T.put (H.put a o) τ ∧ H a = none := by
  unfold Tp.put at h
  obtain ⟨a1, h⟩ := put_none h
  obtain ⟨a2, h⟩ := put_none h
  refine ⟨⟨by rw [put_ne a2.symm]; exact K.ht, by rw [put_ne a1.symm]; exact K.hc, K.ne, K.len⟩, ?_, h⟩
  unfold Tp.put
  rw [put_comm a1.symm, put_comm a2.symm]
theorem Tp.subPut (T : Tp) {H H' : Hp} (h : Sub H H') (τ : Ts) : Sub (T.put H τ) (T.put H' τ) := put_sub (put_sub h _ _) _ _
theorem Tp.Ok.setT (K : T.Ok H τ) (p : Nat) (n : Int) : (T.put H τ).put T.t (.list [.ref T.c, .int p, .int n]) = T.put H ⟨τ.cells, p, n⟩ := by
  unfold Tp.put
  rw [put_comm K.ne.symm, put_put]
theorem Tp.Ok.setC (K : T.Ok H τ) (l : List Int) : (T.put H τ).put T.c (.list (avi l)) = T.put H ⟨l, τ.pos, τ.cnt⟩ := by
  unfold Tp.put
  rw [put_put]
theorem Tp.Ok.to (K : T.Ok H τ) {τ' : Ts} (h : τ'.cells.length ≤ 60) : T.Ok H τ' := ⟨K.ht, K.hc, K.ne, h⟩
end
section
variable {prog : Program} {w : World} {f : Fm} {ε : En} {H : Hp} {T : Tp} {τ : Ts}
theorem digit_ok {lim : Int} {Q : AV → Hp → Prop} (K : T.Ok H τ) (h0 : 0 < lim) (h1 : lim.natAbs.log2 < 9000) (q : ∀ (fig : Int) τ', 0 ≤ fig → fig < lim → T.Ok H τ' → Q (.int fig) (T.put H τ')) : Ct prog w 449 8 [.ref T.t, .int lim] (T.put H τ) Q := by
  refine ct_def (fa := 449) (n := 7) rfl ?_ ?_ ?_ ?_ ?_ ?_ ?_ ?_
  · rfl
  · intro vs h
    rcases vs with _ | ⟨a, _ | ⟨b, _ | _⟩⟩ <;> first | rfl | (simp at h)
  · rfl
  · rfl
  · rfl
  · rfl
  · rfl
  · intro f A g L
    have hlen := K.len
    refine s_cons (s_if (t_cmp (Nat.le_of_ble_eq_true rfl) (e_itemX (e_local rfl rfl (e_int ⟨1, _, _, rfl, by decide, rfl, e_callB (by kernel_rfl) rfl (by decide) rfl (es_cons (e_itemX (e_local rfl rfl (e_int ⟨0, _, _, rfl, by decide, rfl, es_nil (cv_len K.pc (by simp [avi]; omega) ⟨_, c_ge _ _, fun hc => ?_, fun hc => ?_⟩), .inr ⟨T.t, rfl, K.pt⟩⟩)))), .inr ⟨T.t, rfl, K.pt⟩⟩)))))
    · exact s_cons (s_return (e_int (q 0 τ (Int.le_refl 0) h0 K)))
    · have hpos : τ.pos < τ.cells.length := by have := of_decide_eq_false hc; simp [avi] at this; omega
      have hcell : (avi τ.cells)[τ.pos]? = some (.int (τ.cells[τ.pos])) := by unfold avi; rw [List.getElem?_map, List.getElem?_eq_getElem hpos]; rfl
      refine s_nil (s_cons (s_assign rfl (e_itemX (e_itemX (e_local rfl rfl (e_int ⟨0, _, _, rfl, by decide, rfl, e_itemX (e_local rfl rfl (e_int ⟨1, _, _, rfl, by decide, rfl, ⟨τ.pos, _, _, rfl, by omega, hcell, ?_, .inr ⟨T.c, rfl, K.pc⟩⟩, .inr ⟨T.t, rfl, K.pt⟩⟩)), .inr ⟨T.t, rfl, K.pt⟩⟩))))))
      generalize hce : τ.cells[τ.pos] = ce at *
      refine s_cons (s_assign rfl (e_mod (e_local rfl rfl (e_local rfl rfl ⟨_, _, rfl, rfl, by omega, ?_⟩))))
      refine s_cons (s_assign rfl (e_div (e_local rfl rfl (e_local rfl rfl ⟨_, _, rfl, rfl, by omega, h1, ?_⟩))))
      have hf0 : 0 ≤ Int.fmod ce lim := Int.fmod_nonneg_of_pos _ h0
      have hf1 : Int.fmod ce lim < lim := Int.fmod_lt_of_pos _ h0
      generalize Int.fmod ce lim = fig at *
      generalize Int.fdiv ce lim = rest at *
      refine s_cons (s_augItem (e_local rfl rfl (e_int ⟨T.t, _, 2, τ.cnt, rfl, K.pt, rfl, by decide, rfl, e_int ⟨1, rfl, K.pt, ?_⟩⟩)))
      have e1 : (T.put H τ).put T.t (.list ([AV.ref T.c, .int τ.pos, .int τ.cnt].set 2 (.int (τ.cnt + 1)))) = T.put H ⟨τ.cells, τ.pos, τ.cnt + 1⟩ := K.setT _ _
      rw [e1]
      have K1 : T.Ok H ⟨τ.cells, τ.pos, τ.cnt + 1⟩ := K.to hlen
      generalize hcnt : τ.cnt + 1 = cnt at *
      refine s_cons (S1.mono (Q := fun fv ε₁ H₁ => fv = .next ∧ ε₁.get "figure" = some (.int fig) ∧ ∃ τ', T.Ok H τ' ∧ H₁ = T.put H τ') (s_if (T1.mono (Q := fun b H₁ => H₁ = T.put H ⟨τ.cells, τ.pos, cnt⟩) ?_ fun b H₁ eH => ⟨fun hb => ?_, fun hb => ?_⟩)) fun fv ε₁ H₁ ⟨e1, g1, τ', K', e2⟩ => ?_)
      · refine t_or (t_cmp (Nat.le_of_ble_eq_true rfl) (e_local rfl rfl (e_int ⟨_, c_eq _ _, fun _ => rfl, fun _ => ?_⟩)))
        refine t_or (t_cmp (Nat.le_of_ble_eq_true rfl) (e_local rfl rfl (e_neg (e_int ⟨_, rfl, _, c_eq _ _, fun _ => rfl, fun _ => ?_⟩))))
        refine t_or (t_cmp (Nat.le_of_ble_eq_true rfl) (e_itemX (e_local rfl rfl (e_int ⟨2, _, _, rfl, by decide, rfl, e_int ⟨_, c_eq _ _, fun _ => rfl, fun _ => ?_⟩, .inr ⟨T.t, rfl, K1.pt⟩⟩))))
        exact t_or0 rfl
      · subst eH
        refine s_cons (s_augItem (e_local rfl rfl (e_int ⟨T.t, _, 1, τ.pos, rfl, K1.pt, rfl, by decide, rfl, e_int ⟨1, rfl, K1.pt, ?_⟩⟩)))
        have e2 : (T.put H ⟨τ.cells, τ.pos, cnt⟩).put T.t (.list ([AV.ref T.c, .int τ.pos, .int cnt].set 1 (.int ((τ.pos : Int) + 1)))) = T.put H ⟨τ.cells, τ.pos + 1, cnt⟩ := by
          have := K1.setT (τ.pos + 1) cnt
          rw [← this]; rfl
        rw [e2]
        have K2 : T.Ok H ⟨τ.cells, τ.pos + 1, cnt⟩ := K.to hlen
        refine s_cons (s_setItem (e_int (e_local rfl rfl (e_int ⟨T.t, _, 2, rfl, K2.pt, rfl, (show 2 < 3 by decide), by decide, ?_⟩))))
        refine s_nil ⟨rfl, rfl, ⟨τ.cells, τ.pos + 1, 0⟩, K.to hlen, ?_⟩
        exact K2.setT _ _
      · subst eH
        refine s_cons (s_setItem (e_local rfl rfl (e_itemX (e_local rfl rfl (e_int ⟨0, _, _, rfl, by decide, rfl, e_itemX (e_local rfl rfl (e_int ⟨1, _, _, rfl, by decide, rfl, ⟨T.c, _, τ.pos, rfl, K1.pc, rfl, by simp [avi]; omega, by omega, ?_⟩, .inr ⟨T.t, rfl, K1.pt⟩⟩)), .inr ⟨T.t, rfl, K1.pt⟩⟩)))))
        refine s_nil ⟨rfl, rfl, ⟨τ.cells.set τ.pos rest, τ.pos, cnt⟩, K.to (by simp; omega), ?_⟩
        have := K1.setC (τ.cells.set τ.pos rest)
        rw [← this]
        congr 2
        unfold avi
        rw [List.map_set]
      · subst e1 e2
        exact s_cons (s_return (e_local g1 rfl (q fig τ' hf0 hf1 K')))
theorem g_digit : nsIn (KK w) mainGlobals "_law_digit" = some (some (.ref 449)) := by kernel_rfl
theorem k_digit : keepIn (KK w) (.ref 449) = true := by kernel_rfl
theorem g_term : nsIn (KK w) mainGlobals "_law_term" = some (some (.ref 456)) := by kernel_rfl
theorem k_term : keepIn (KK w) (.ref 456) = true := by kernel_rfl
/-- _law_digit(tape, lim) -/
theorem e_digit {x : Str} {p pp pos : Pos} {e : PySem.Expr} {Q : AV → Hp → Prop} (K : T.Ok H τ) (hv : ε.get x = some (.ref T.t)) (hx : f.env.kindOf x = some .local) (hg : f.env.kindOf "_law_digit" = some .globalImplicit) (hr : 8 ≤ f.r)
    (h : E1 prog w f e ε (T.put H τ) fun v H₁ => ∃ lim, v = .int lim ∧ H₁ = T.put H τ ∧ 0 < lim ∧ lim.natAbs.log2 < 9000 ∧ ∀ (fig : Int) τ', 0 ≤ fig → fig < lim → T.Ok H τ' → Q (.int fig) (T.put H τ'))
    (hd : (x == ("__debug__" : Str)) = false := by decide)
    (he : eval (.Call (.Name "_law_digit" p) [.Name x pp, e] [] pos) f.env = (do let v ← eval (.Name "_law_digit" p) f.env; callWith pos v [] (backTo pos (starEach [.Name x pp, e] f.env)) (backToKw pos (keywordEach [] f.env))) := by rfl)
    (h1 : starEach [.Name x pp, e] f.env = (false, eval (.Name x pp) f.env) :: starEach [e] f.env := by rfl) (h3 : starEach [e] f.env = (false, eval e f.env) :: starEach [] f.env := by rfl) (h2 : (backTo pos (starEach [e] f.env)).any (·.1) = false := by rfl) : E1 prog w f (.Call (.Name "_law_digit" p) [.Name x pp, e] [] pos) ε (T.put H τ) Q :=
  e_call g_digit k_digit hg (es_cons (e_local hv hx (es_cons (h.mono fun v H₁ ⟨lim, e1, e2, a, b, q⟩ => es_nil (by subst e1 e2; exact cv_def (digit_ok K a b q) hr)) h3) hd) h1) (by decide) he h1 h2
noncomputable def Tm.low (t : Tm) : Prop := ∀ k ∈ t.vars, k < 5
set_option maxHeartbeats 1000000 in
theorem term_ok : ∀ (deep : Nat) {H : Hp} {τ : Ts} {Q : AV → Hp → Prop}, T.Ok H τ → deep ≤ 2 → (∀ (t : Tm) τ', t.low → t.size < 2 ^ (deep + 1) → T.Ok H τ' → Q t.enc (T.put H τ')) → Ct prog w 456 (9 + deep) [.ref T.t, .int deep] (T.put H τ) Q := by
  intro deep
  induction deep with
  | zero =>
    intro H τ Q K hd q
    refine ct_def (fa := 456) (n := 8) rfl ?_ ?_ ?_ ?_ ?_ ?_ ?_ ?_
    · rfl
    · intro vs h
      rcases vs with _ | ⟨a, _ | ⟨b, _ | _⟩⟩ <;> first | rfl | (simp at h)
    · rfl
    · rfl
    · rfl
    · rfl
    · rfl
    · intro f A g L
      refine s_cons (s_assign rfl (e_digit K rfl rfl rfl (Nat.le_of_ble_eq_true rfl) (e_int ⟨6, rfl, rfl, by decide, by decide, fun way τ1 w0 w1 K1 => ?_⟩)))
      refine s_cons (s_if (t_cmp (Nat.le_of_ble_eq_true rfl) (e_local rfl rfl (e_int ⟨_, c_eq _ _, fun hc => ?_, fun hc => ?_⟩))))
      · refine s_cons (s_return (e_tuple (es_cons (e_str (es_cons (e_digit K1 rfl rfl rfl (Nat.le_of_ble_eq_true rfl) (e_int ⟨4, rfl, rfl, by decide, by decide, fun fig τ2 _ _ K2 => es_nil ⟨Nat.le_of_ble_eq_true rfl, ?_⟩⟩)))))))
        exact q (.a fig) τ2 (by intro k hk; cases hk) (by simp [Tm.size]) K2
      refine s_nil (s_cons (s_if (t_cmp (Nat.le_of_ble_eq_true rfl) (e_local rfl rfl (e_int ⟨_, c_eq _ _, fun hc => ?_, fun hc => ?_⟩)))))
      · refine s_cons (s_return (e_tuple (es_cons (e_str (es_cons (e_sub (e_digit K1 rfl rfl rfl (Nat.le_of_ble_eq_true rfl) (e_pow (e_int (e_int ⟨10, 20, rfl, rfl, by decide, by decide, by decide, 10 ^ 20, rfl, rfl, by decide, by decide, fun fig τ2 _ _ K2 => e_int ⟨_, _, rfl, rfl, es_nil ⟨Nat.le_of_ble_eq_true rfl, ?_⟩⟩⟩)))))))))) 
        exact q (.i (fig - 5)) τ2 (by intro k hk; cases hk) (by simp [Tm.size]) K2
      refine s_nil (s_cons (s_if (T1.mono (Q := fun b H₁ => b = false ∧ H₁ = T.put H τ1) ?_ fun b H₁ ⟨eb, eH⟩ => ⟨fun hb => ?_, fun hb => ?_⟩)))
      · refine t_and (t_cmp (Nat.le_of_ble_eq_true rfl) (e_local rfl rfl (e_int ⟨_, c_eq _ _, fun _ => ⟨rfl, rfl⟩, fun _ => ?_⟩)))
        refine t_and (t_cmp (Nat.le_of_ble_eq_true rfl) (e_local rfl rfl (e_int ⟨_, c_gt _ _, fun _ => ⟨rfl, rfl⟩, fun hc => ?_⟩)))
        exact absurd (of_decide_eq_true hc) (by decide)
      · rw [eb] at hb; cases hb
      subst eH
      refine s_nil (s_cons (s_if (T1.mono (Q := fun b H₁ => b = false ∧ H₁ = T.put H τ1) ?_ fun b H₁ ⟨eb, eH⟩ => ⟨fun hb => ?_, fun hb => ?_⟩)))
      · refine t_and (t_cmp (Nat.le_of_ble_eq_true rfl) (e_local rfl rfl (e_int ⟨_, c_eq _ _, fun _ => ⟨rfl, rfl⟩, fun _ => ?_⟩)))
        refine t_and (t_cmp (Nat.le_of_ble_eq_true rfl) (e_local rfl rfl (e_int ⟨_, c_gt _ _, fun _ => ⟨rfl, rfl⟩, fun hc => ?_⟩)))
        exact absurd (of_decide_eq_true hc) (by decide)
      · rw [eb] at hb; cases hb
      subst eH
      refine s_nil (s_cons (s_return (e_tuple (es_cons (e_str (es_cons (e_digit K1 rfl rfl rfl (Nat.le_of_ble_eq_true rfl) (e_int ⟨5, rfl, rfl, by decide, by decide, fun fig τ2 f0 f1 K2 => es_nil ⟨Nat.le_of_ble_eq_true rfl, ?_⟩⟩))))))))
      obtain ⟨k, rfl⟩ := Int.eq_ofNat_of_zero_le f0
      exact q (.v k) τ2 (by intro j hj; rw [List.mem_singleton.mp hj]; omega) (by simp [Tm.size]) K2
  | succ deep ih =>
    intro H τ Q K hd q
    refine Ct.weak (ct_def (fa := 456) (n := 9 + deep) rfl ?_ ?_ ?_ ?_ ?_ ?_ ?_ ?_)
    · rfl
    · intro vs h
      rcases vs with _ | ⟨a, _ | ⟨b, _ | _⟩⟩ <;> first | rfl | (simp at h)
    · rfl
    · rfl
    · rfl
    · rfl
    · rfl
    · intro f A g L
      have r8 : 8 ≤ 9 + deep := by omega
      have r6 : 6 ≤ 9 + deep := by omega
      have ed : ((deep + 1 : Nat) : Int) - 1 = ((deep : Nat) : Int) := by omega
      have p2 : 1 < 2 ^ (deep + 1 + 1) := Nat.one_lt_two_pow (by omega)
      have pp : 2 ^ (deep + 1 + 1) = 2 * 2 ^ (deep + 1) := by rw [Nat.pow_succ]; omega
      refine s_cons (s_assign rfl (e_digit K rfl rfl rfl r8 (e_int ⟨6, rfl, rfl, by decide, by decide, fun way τ1 w0 w1 K1 => ?_⟩)))
      refine s_cons (s_if (t_cmp r6 (e_local rfl rfl (e_int ⟨_, c_eq _ _, fun hc => ?_, fun hc => ?_⟩))))
      · refine s_cons (s_return (e_tuple (es_cons (e_str (es_cons (e_digit K1 rfl rfl rfl r8 (e_int ⟨4, rfl, rfl, by decide, by decide, fun fig τ2 _ _ K2 => es_nil ⟨Nat.le_of_ble_eq_true rfl, ?_⟩⟩)))))))
        exact ⟨_, Sub.refl _, q (.a fig) τ2 (by intro k hk; cases hk) p2 K2⟩
      refine s_nil (s_cons (s_if (t_cmp r6 (e_local rfl rfl (e_int ⟨_, c_eq _ _, fun hc => ?_, fun hc => ?_⟩)))))
      · refine s_cons (s_return (e_tuple (es_cons (e_str (es_cons (e_sub (e_digit K1 rfl rfl rfl r8 (e_pow (e_int (e_int ⟨10, 20, rfl, rfl, by decide, by decide, by decide, 10 ^ 20, rfl, rfl, by decide, by decide, fun fig τ2 _ _ K2 => e_int ⟨_, _, rfl, rfl, es_nil ⟨Nat.le_of_ble_eq_true rfl, ?_⟩⟩⟩)))))))))) 
        exact ⟨_, Sub.refl _, q (.i (fig - 5)) τ2 (by intro k hk; cases hk) p2 K2⟩
      refine s_nil (s_cons (s_if (T1.mono (Q := fun b H₁ => H₁ = T.put H τ1) ?_ fun b H₁ eH => ⟨fun hb => ?_, fun hb => ?_⟩)))
      · refine t_and (t_cmp r6 (e_local rfl rfl (e_int ⟨_, c_eq _ _, fun _ => rfl, fun _ => ?_⟩)))
        refine t_and (t_cmp r6 (e_local rfl rfl (e_int ⟨_, c_gt _ _, fun _ => rfl, fun _ => ?_⟩)))
        exact t_and0 rfl
      · subst eH
        refine s_cons (s_return (e_tuple (es_cons (e_str (es_cons (e_global (v := .int 12 196) (by kernel_rfl) (.int _ _) rfl (es_cons (e_tuple (es_cons (e_call (fa := .ref 456) g_term k_term rfl (es_cons (e_local rfl rfl (es_cons (e_sub (e_local rfl rfl (e_int ⟨_, _, rfl, rfl, es_nil ?_⟩)))))))))))))))) 
        rw [ed]
        refine cv_def (ih K1 (by omega) fun t τ2 hl hs K2 => es_nil ⟨Nat.le_of_ble_eq_true rfl, es_nil ⟨Nat.le_of_ble_eq_true rfl, ?_⟩⟩) (Nat.le_refl _)
        exact ⟨_, Sub.refl _, q (.s1 t) τ2 hl (by simp only [Tm.size]; omega) K2⟩
      subst eH
      refine s_nil (s_cons (s_if (T1.mono (Q := fun b H₁ => H₁ = T.put H τ1) ?_ fun b H₁ eH => ⟨fun hb => ?_, fun hb => ?_⟩)))
      · refine t_and (t_cmp r6 (e_local rfl rfl (e_int ⟨_, c_eq _ _, fun _ => rfl, fun _ => ?_⟩)))
        refine t_and (t_cmp r6 (e_local rfl rfl (e_int ⟨_, c_gt _ _, fun _ => rfl, fun _ => ?_⟩)))
        exact t_and0 rfl
      · subst eH
        refine s_cons (s_assign rfl (e_call (fa := .ref 456) g_term k_term rfl (es_cons (e_local rfl rfl (es_cons (e_sub (e_local rfl rfl (e_int ⟨_, _, rfl, rfl, es_nil ?_⟩))))))))
        rw [ed]
        refine cv_def (ih K1 (by omega) fun t τ2 hl hs K2 => ?_) (Nat.le_refl _)
        refine s_cons (s_assign rfl (e_call (fa := .ref 456) g_term k_term rfl (es_cons (e_local rfl rfl (es_cons (e_sub (e_local rfl rfl (e_int ⟨_, _, rfl, rfl, es_nil ?_⟩))))))))
        rw [ed]
        refine cv_def (ih K2 (by omega) fun u τ3 hl2 hs2 K3 => ?_) (Nat.le_refl _)
        refine s_cons (s_return (e_tuple (es_cons (e_str (es_cons (e_itemX (e_list (es_cons (e_global (v := .int 0 194) (by kernel_rfl) (.int _ _) rfl (es_cons (e_global (v := .int 14 198) (by kernel_rfl) (.int _ _) rfl (es_nil ⟨Nat.le_of_ble_eq_true rfl, fun a ha => ?_⟩))))))))))))
        obtain ⟨K4, e4, ha0⟩ := K3.new (.list [.int 0, .int 14]) ha
        have e5 : (T.put H τ3).put a (.list [.int 0, .int 14]) = T.put (H.put a (.list [.int 0, .int 14])) τ3 := e4
        rw [e5]
        refine e_digit K4 rfl rfl rfl r8 (e_int ⟨2, rfl, rfl, by decide, by decide, fun fig τ4 f0 f1 K5 => ?_⟩)
        have ha5 := K5.sub _ _ (put_get H a (.list [.int 0, .int 14]))
        have fin : ∀ p : Bool, ∃ H'', Sub H'' (T.put (H.put a (.list [.int 0, .int 14])) τ4) ∧ Q (Tm.s2 p t u).enc H'' := fun p => by
          refine ⟨T.put H τ4, T.subPut (Sub.fresh ha0) _, q (.s2 p t u) τ4 ?_ ?_ ⟨K.ht, K.hc, K.ne, K5.len⟩⟩
          · intro k hk
            rcases List.mem_append.mp hk with h | h
            · exact hl k h
            · exact hl2 k h
          · simp only [Tm.size]; omega
        have hfig : fig = 0 ∨ fig = 1 := by omega
        rcases hfig with rfl | rfl
        · exact ⟨0, _, _, rfl, by decide, rfl, es_cons (e_tuple (es_cons (e_local rfl rfl (es_cons (e_local rfl rfl (es_nil ⟨Nat.le_of_ble_eq_true rfl, es_nil ⟨Nat.le_of_ble_eq_true rfl, fin false⟩⟩)))))), .inr ⟨a, rfl, ha5⟩⟩
        · exact ⟨1, _, _, rfl, by decide, rfl, es_cons (e_tuple (es_cons (e_local rfl rfl (es_cons (e_local rfl rfl (es_nil ⟨Nat.le_of_ble_eq_true rfl, es_nil ⟨Nat.le_of_ble_eq_true rfl, fin true⟩⟩)))))), .inr ⟨a, rfl, ha5⟩⟩
      subst eH
      refine s_nil (s_cons (s_return (e_tuple (es_cons (e_str (es_cons (e_digit K1 rfl rfl rfl r8 (e_int ⟨5, rfl, rfl, by decide, by decide, fun fig τ2 f0 f1 K2 => es_nil ⟨Nat.le_of_ble_eq_true rfl, ?_⟩⟩))))))))
      obtain ⟨k, rfl⟩ := Int.eq_ofNat_of_zero_le f0
      exact ⟨_, Sub.refl _, q (.v k) τ2 (by intro j hj; rw [List.mem_singleton.mp hj]; omega) p2 K2⟩
end
end Mine
set_option Elab.async false
set_option linter.unusedVariables false
set_option maxRecDepth 100000
namespace Mine
open PySem PySem.W PySem.Calls PySem.Spec PyProof.Rows
noncomputable def avn (l : List Nat) : List AV := avi (l.map fun k : Nat => (k : Int))
theorem avn_append (l k : List Nat) : avn (l ++ k) = avn l ++ avn k := by simp [avn, avi]
theorem avn_len (l : List Nat) : (avn l).length = l.length := by simp [avn, avi]
theorem sub_sub_put {H : Hp} {a b : Addr} {o o' p : AO} (hb : (H.put a o) b = none) : Sub (H.put a o') (((H.put a o).put b p).put a o') := by
  obtain ⟨hba, hb0⟩ := put_none hb
  intro c oc e
  by_cases h : c = a
  · subst h; rw [put_get] at e ⊢; exact e
  · rw [put_ne h] at e
    rw [put_ne h, put_ne (fun z => by rw [z, hb0] at e; cases e), put_ne h]; exact e
section
variable {prog : Program} {w : World} {f : Fm} {ε : En} {H : Hp}
theorem g_names : nsIn (KK w) mainGlobals "_law_names" = some (some (.ref 463)) := by kernel_rfl
theorem k_names : keepIn (KK w) (.ref 463) = true := by kernel_rfl
theorem names_ok : ∀ (m : Nat) {H : Hp} {t : Tm} {Q : AV → Hp → Prop}, t.size ≤ m → m < 400 → (∀ y, H y = none → Q (.ref y) (H.put y (.list (avn t.vars)))) → Ct prog w 463 (8 + m) [t.enc] H Q := by
  intro m
  induction m with
  | zero => intro H t Q hs; have := t.size_pos; omega
  | succ m ih =>
    intro H t Q hs hm q
    refine Ct.weak (ct_def (fa := 463) (n := 8 + m) rfl ?_ ?_ ?_ ?_ ?_ ?_ ?_ ?_)
    · rfl
    · intro vs h
      rcases vs with _ | ⟨a, _ | _⟩ <;> first | rfl | (simp at h)
    · rfl
    · rfl
    · rfl
    · rfl
    · rfl
    · intro f A g L
      have r6 : 6 ≤ 8 + m := by omega
      have he := t.enc_eq
      refine s_cons (s_if (t_cmp r6 (e_tm (l := t.body) (by rw [he]; rfl) rfl t.body0 rfl (e_str ⟨_, c_seq _ _, fun hc => ?_, fun hc => ?_⟩))))
      · rw [Tm.tag_v] at hc
        refine s_cons (s_return (e_list (es_cons (e_tm (l := t.body) (by rw [he]; rfl) rfl t.body1 rfl (es_nil ⟨Nat.le_of_ble_eq_true rfl, fun y hy => ⟨_, Sub.refl _, ?_⟩⟩)))))
        have q' := q y hy
        rw [vars_v hc] at q'
        rw [Tm.snd_var hc]
        exact q'
      · rw [Tm.tag_v] at hc
        refine s_nil (s_cons (s_assign rfl (e_list (es_nil ⟨Nat.le_of_ble_eq_true rfl, fun y hy => ?_⟩))))
        refine s_cons (S1.mono (Q := fun fv ε₁ H₁ => fv = .next ∧ ε₁.get "found" = some (.ref y) ∧ H₁ = H.put y (.list (avn t.vars))) (s_if (t_cmp r6 (e_tm (l := t.body) (by rw [he]; rfl) rfl t.body0 rfl (e_str ⟨_, c_seq _ _, fun hc2 => ?_, fun hc2 => ?_⟩)))) fun fv ε₁ H₁ ⟨e1, g1, e2⟩ => ?_)
        rotate_left
        · rw [Tm.tag_s] at hc2
          refine s_cons (s_forTup rfl (e_tm (l := t.body) (by rw [he]; rfl) rfl (Tm.body2 hc2) rfl ⟨_, rfl, fun i ε H' => ε.get "found" = some (.ref y) ∧ H' = H.put y (.list (avn (avars (t.args.take i)))), ⟨rfl, rfl⟩, ?_, ?_⟩))
          · rintro i ε H' p hi ⟨h1, rfl⟩
            have hi' : i < t.args.length := by simpa using hi
            rw [getD_map t.args hi']
            have hsz := Tm.size_args hc2
            have hle : (t.args[i]).size ≤ ssum t.args := by
              have : ∀ (l : List Tm) (i : Nat) (h : i < l.length), (l[i]).size ≤ ssum l := by
                intro l
                induction l with
                | nil => intro i h; simp at h
                | cons a r ih2 =>
                  intro i h
                  rw [ssum_cons]
                  cases i with
                  | zero => simp
                  | succ i => have := ih2 i (by simpa using h); simp; omega
              exact this _ _ _
            have hvl := vars_len t.args[i]
            have hal : (avars (t.args.take i)).length ≤ 800 := by
              have h1 : ∀ l : List Tm, (avars l).length ≤ ssum l := by
                intro l
                induction l with
                | nil => simp [avars]
                | cons a r ih2 => rw [avars_cons, ssum_cons, List.length_append]; have := vars_len a; omega
              have h2 : ∀ (l : List Tm) (i : Nat), ssum (l.take i) ≤ ssum l := by
                intro l
                induction l with
                | nil => intro i; simp [ssum]
                | cons a r ih2 => intro i; cases i with
                  | zero => simp [ssum]
                  | succ i => rw [List.take_succ_cons, ssum_cons, ssum_cons]; have := ih2 i; omega
              have := h1 (t.args.take i); have := h2 t.args i; omega
            refine S1.weakP ?_
            refine s_cons (s_expr (e_methB (e_local (by exact h1) rfl ⟨y, _, rfl, mb_extend (put_get _ _ _), es_cons (e_call g_names k_names rfl (es_cons (e_local rfl rfl (es_nil (cv_def (ih (t := t.args[i]) (by omega) (by omega) fun z hz => ?_) (Nat.le_refl _))))))⟩)))
            have hzy := (put_none hz).1
            refine es_nil (cv_extend (by rw [put_ne hzy.symm, put_get]) (put_get _ _ _) hzy.symm (by rw [avn_len]; omega) (by rw [avn_len]; omega) ⟨rfl, ?_⟩)
            refine s_nil ⟨_, _, fun _ _ h => h, sub_sub_put hz, h1, ?_⟩
            rw [take_succ_get hi', avars_append, avn_append]
            simp [avars]
          · rintro ε H' ⟨h1, rfl⟩
            refine s_nil ⟨rfl, h1, ?_⟩
            rw [List.length_map, List.take_length, avars_args hc2]
        · rw [Tm.tag_s] at hc2
          refine s_nil ⟨rfl, rfl, ?_⟩
          rw [vars_c hc hc2]; rfl
        · subst e1 e2
          exact s_cons (s_return (e_local g1 rfl ⟨_, Sub.refl _, q y hy⟩))
theorem strangers_any {t u : Tm} (h : sameFn t u = true) : strangers t u = (t.args.zip u.args).any fun p => strangers p.1 p.2 := by
  unfold sameFn at h
  simp only [Bool.and_eq_true, beq_iff_eq] at h
  cases t with
  | s1 a => cases u with
    | s1 b => simp [Tm.args, strangers]
    | s2 q b c => have := h.2; cases q <;> simp [Tm.snd] at this
    | _ => cases h.1.2
  | s2 q a d => cases u with
    | s1 b => have := h.2; cases q <;> simp [Tm.snd] at this
    | s2 r b c =>
      have hq : q = r := by have := h.2; cases q <;> cases r <;> simp [Tm.snd] at this <;> rfl
      subst hq
      simp [Tm.args, strangers]
    | _ => cases h.1.2
  | _ => cases h.1.1
theorem strangers_no {t u : Tm} (h : sameFn t u = false) (hv : (t.isV && u.isV) = false) : strangers t u = false := by
  cases t with
  | v j => cases u with
    | v k => cases hv
    | _ => rfl
  | s1 a => cases u with
    | s1 b => simp [sameFn, Tm.isS, Tm.snd] at h
    | _ => rfl
  | s2 q a d => cases u with
    | s2 r b c =>
      have hq : q ≠ r := fun e => by subst e; simp [sameFn, Tm.isS, Tm.snd] at h
      unfold strangers
      rw [if_neg (by simpa using hq)]
    | _ => rfl
  | _ => rfl
theorem g_str : nsIn (KK w) mainGlobals "_law_strangers" = some (some (.ref 470)) := by kernel_rfl
theorem k_str : keepIn (KK w) (.ref 470) = true := by kernel_rfl
theorem strangers_ok : ∀ (m : Nat) {H : Hp} {t u : Tm} {Q : AV → Hp → Prop}, t.size ≤ m → m < 400 → Q (.bool (strangers t u)) H → Ct prog w 470 (8 + m) [t.enc, u.enc] H Q := by
  intro m
  induction m with
  | zero => intro H t u Q hs; have := t.size_pos; omega
  | succ m ih =>
    intro H t u Q hs hm q
    refine Ct.weak (ct_def (fa := 470) (n := 8 + m) rfl ?_ ?_ ?_ ?_ ?_ ?_ ?_ ?_)
    · rfl
    · intro vs h
      rcases vs with _ | ⟨a, _ | ⟨b, _ | _⟩⟩ <;> first | rfl | (simp at h)
    · rfl
    · rfl
    · rfl
    · rfl
    · rfl
    · intro f A g L
      have r6 : 6 ≤ 8 + m := by omega
      have he := t.enc_eq
      have hu := u.enc_eq
      refine s_cons (s_if (T1.mono (Q := fun b H₁ => b = (t.isV && u.isV) ∧ H₁ = H) ?_ fun b H₁ ⟨eb, eH⟩ => ⟨fun hb => ?_, fun hb => ?_⟩))
      · refine t_and (t_cmp r6 (e_tm (l := t.body) (by rw [he]; rfl) rfl t.body0 rfl (e_str ⟨_, c_seq _ _, fun hc => ?_, fun hc => ?_⟩)))
        · rw [Tm.tag_v] at hc; rw [hc]; exact ⟨rfl, rfl⟩
        · rw [Tm.tag_v] at hc
          refine t_and (t_cmp r6 (e_tm (l := u.body) (by rw [hu]; rfl) rfl u.body0 rfl (e_str ⟨_, c_seq _ _, fun hc2 => ?_, fun hc2 => ?_⟩)))
          · rw [Tm.tag_v] at hc2; rw [hc, hc2]; exact ⟨rfl, rfl⟩
          · rw [Tm.tag_v] at hc2; exact t_and0 ⟨by rw [hc, hc2]; rfl, rfl⟩
      · subst eH
        rw [hb] at eb
        have hb' := Bool.and_eq_true_iff.mp eb.symm
        have nt : t.isS = false := by cases t <;> first | rfl | cases hb'.1
        have nu : u.isS = false := by cases u <;> first | rfl | cases hb'.2
        refine s_cons (s_return (e_cmp r6 (e_local rfl rfl (e_local rfl rfl ⟨!PyData.eqvAll (pds t.body) (pds u.body), ?_, _, Sub.refl _, ?_⟩))))
        · rw [he, hu]
          exact c_neT (body_fit nt) (body_fit nu)
        · rw [body_eqv nt nu]
          have e : (!(t == u)) = strangers t u := by
            cases t with
            | v j => cases u with
              | v k =>
                unfold strangers
                rw [Bool.eq_iff_iff]; simp
              | _ => cases hb'.2
            | _ => cases hb'.1
          rw [e]; exact q
      · subst eH
        rw [hb] at eb
        refine s_nil (s_cons (s_if (T1.mono (Q := fun b H₂ => b = sameFn t u ∧ H₂ = H₁) ?_ fun b H₂ ⟨eb2, eH⟩ => ⟨fun hb2 => ?_, fun hb2 => ?_⟩)))
        · refine t_and (t_cmp r6 (e_tm (l := t.body) (by rw [he]; rfl) rfl t.body0 rfl (e_str ⟨_, c_seq _ _, fun hc => ?_, fun hc => ?_⟩)))
          · rw [Tm.tag_s] at hc; unfold sameFn; rw [hc]; exact ⟨rfl, rfl⟩
          · rw [Tm.tag_s] at hc
            refine t_and (t_cmp r6 (e_tm (l := u.body) (by rw [hu]; rfl) rfl u.body0 rfl (e_str ⟨_, c_seq _ _, fun hc2 => ?_, fun hc2 => ?_⟩)))
            · rw [Tm.tag_s] at hc2; unfold sameFn; rw [hc, hc2]; exact ⟨rfl, rfl⟩
            · rw [Tm.tag_s] at hc2
              refine t_and (t_cmp r6 (e_tm (l := t.body) (by rw [he]; rfl) rfl t.body1 rfl (e_tm (l := u.body) (by rw [hu]; rfl) rfl u.body1 rfl ⟨_, c_eq _ _, fun hc3 => ?_, fun hc3 => ?_⟩)))
              · unfold sameFn; rw [hc, hc2, hc3]; exact ⟨rfl, rfl⟩
              · exact t_and0 ⟨by unfold sameFn; rw [hc, hc2, hc3]; rfl, rfl⟩
        · subst eH
          rw [hb2] at eb2
          have hsf := eb2.symm
          rw [strangers_any hsf] at q
          obtain ⟨hs1, hs2, hal⟩ := sameFn_len hsf
          have hz1 := Tm.size_args hs1
          have ha2 := t.args_len
          have hzl : (t.args.zip u.args).length = t.args.length := by rw [List.length_zip]; omega
          generalize hzs : t.args.zip u.args = zs at *
          refine s_cons (s_forRange rfl (e_callT (by kernel_rfl) rfl (by decide) rfl (es_cons (e_callB (by kernel_rfl) rfl (by decide) rfl (es_cons (e_tm (l := t.body) (by rw [he]; rfl) rfl (Tm.body2 hs1) rfl (es_nil (cv_lenT (by simp; omega) (es_nil (cv_range fun r hr => ?_)))))))))) 
          refine ⟨r, t.args.length, rfl, by rw [put_get]; simp, by omega, fun i ε H' => ε.get "one" = some t.enc ∧ ε.get "two" = some u.enc ∧ H' = H₂.put r (.rng (((t.args.map Tm.enc).length : Nat) : Int)) ∧ (zs.take i).any (fun p => strangers p.1 p.2) = false, ⟨rfl, rfl, rfl, rfl⟩, ?_, ?_⟩
          · intro i ε H' p hi hh
            refine and4 hh fun h1 h2 hq02 h3 => ?_
            clear hh
            subst hq02
            have hiu : i < u.args.length := by omega
            have hiz : i < zs.length := by omega
            have ez : zs[i] = (t.args[i], u.args[i]) := by subst hzs; rw [List.getElem_zip]
            have hle : (t.args[i]).size ≤ ssum t.args := by
              have : ∀ (l : List Tm) (i : Nat) (h : i < l.length), (l[i]).size ≤ ssum l := by
                intro l
                induction l with
                | nil => intro i h; simp at h
                | cons a r ih2 =>
                  intro i h
                  rw [ssum_cons]
                  cases i with
                  | zero => simp
                  | succ i => have := ih2 i (by simpa using h); simp; omega
              exact this _ _ _
            rw [he] at h1
            rw [hu] at h2
            refine s_cons (s_if (t_val (e_call g_str k_str rfl (es_cons (e_itemX (e_tm (by exact h1) rfl (Tm.body2 hs1) rfl (e_local rfl rfl ⟨i, _, t.args[i].enc, rfl, by omega, by rw [List.getElem?_map, List.getElem?_eq_getElem hi]; rfl,
              es_cons (e_itemX (e_tm (by exact h2) rfl (Tm.body2 hs2) rfl (e_local rfl rfl ⟨i, _, u.args[i].enc, rfl, by omega, by rw [List.getElem?_map, List.getElem?_eq_getElem hiu]; rfl, es_nil (cv_def (ih (t := t.args[i]) (by omega) (by omega) (.inl ⟨_, rfl, fun hc => ?_, fun hc => ?_⟩)) (Nat.le_refl _)), .inl rfl⟩))), .inl rfl⟩)))))))
            · have e : zs.any (fun p => strangers p.1 p.2) = true := List.any_eq_true.mpr ⟨zs[i], List.getElem_mem hiz, by rw [ez]; exact hc⟩
              rw [e] at q
              exact s_cons (s_return (e_bool ⟨_, Sub.fresh hr, q⟩))
            · refine s_nil (s_nil ⟨by rw [he]; exact h1, by rw [hu]; exact h2, rfl, ?_⟩)
              rw [take_succ_get hiz, List.any_append, h3, ez]
              simpa using hc
          · intro ε H' hh
            refine and4 hh fun h1 h2 hq02 h3 => ?_
            clear hh
            subst hq02
            rw [← hzl, List.take_length] at h3
            rw [h3] at q
            exact s_nil (s_cons (s_return (e_bool ⟨_, Sub.fresh hr, q⟩)))
        · subst eH
          rw [hb2] at eb2
          rw [strangers_no eb2.symm eb.symm] at q
          exact s_nil (s_cons (s_return (e_bool ⟨_, Sub.refl _, q⟩)))
end
end Mine
set_option Elab.async false
set_option linter.unusedVariables false
set_option maxRecDepth 100000
namespace Mine
open PySem PySem.W PySem.Calls PySem.Spec PyProof.Rows
noncomputable def sg0 : Sg := ⟨[], fun _ => false, fun _ => false, 5⟩
noncomputable def headSrc (n : Nat) : AV := .tup [.str "a", .int n]
noncomputable def begunRun (P : Pl) (ts : List Tm) : Sg × Nat := ts.foldl (fun s t => (headArg P s.1 t (headSrc (s.2 + 1)), s.2 + 1)) (sg0, 0)
theorem begun_succ (P : Pl) {ts : List Tm} {i : Nat} (h : i < ts.length) : begunRun P (ts.take (i + 1)) = (headArg P (begunRun P (ts.take i)).1 ts[i] (headSrc ((begunRun P (ts.take i)).2 + 1)), (begunRun P (ts.take i)).2 + 1) := by
  unfold begunRun
  rw [take_succ_get h, List.foldl_append]; rfl
theorem begun_len (P : Pl) : ∀ (ts : List Tm) (s : Sg × Nat), (ts.foldl (fun s t => (headArg P s.1 t (headSrc (s.2 + 1)), s.2 + 1)) s).1.code.length ≤ s.1.code.length + 6 * ssum ts
  | [], _ => by simp
  | t :: r, s => by
    rw [List.foldl_cons]
    have h1 := begun_len P r (headArg P s.1 t (headSrc (s.2 + 1)), s.2 + 1)
    have h2 := headArg_len P s.1 t (headSrc (s.2 + 1))
    rw [ssum_cons]
    dsimp only at h1
    omega
theorem ssum_take (l : List Tm) (i : Nat) : ssum (l.take i) ≤ ssum l := by
  induction l generalizing i with
  | nil => simp [ssum]
  | cons a r ih => cases i with
    | zero => simp [ssum]
    | succ i => rw [List.take_succ_cons, ssum_cons, ssum_cons]; have := ih i; omega
theorem ssum_get {l : List Tm} {i : Nat} (h : i < l.length) : (l[i]).size ≤ ssum l := by
  induction l generalizing i with
  | nil => simp at h
  | cons a r ih =>
    rw [ssum_cons]
    cases i with
    | zero => simp
    | succ i => have := ih (i := i) (by simpa using h); simp; omega
section
variable {prog : Program} {w : World} {f : Fm} {ε : En} {H : Hp} {P : Pl}
theorem at284_count : attrOk (KK w) 284 "count" = true := by kernel_rfl
theorem at284_args : attrOk (KK w) 284 "args" = true := by kernel_rfl
theorem at284_goals : attrOk (KK w) 284 "goals" = true := by kernel_rfl
theorem st265_kernel : setOk (KK w) 265 "kernel" = true := by kernel_rfl
theorem st265_plan : setOk (KK w) 265 "plan" = true := by kernel_rfl
theorem st265_code : setOk (KK w) 265 "code" = true := by kernel_rfl
theorem st265_seen : setOk (KK w) 265 "seen" = true := by kernel_rfl
theorem st265_local : setOk (KK w) 265 "local" = true := by kernel_rfl
theorem st284_functor : setOk (KK w) 284 "functor" = true := by kernel_rfl
theorem st284_args : setOk (KK w) 284 "args" = true := by kernel_rfl
theorem st284_goals : setOk (KK w) 284 "goals" = true := by kernel_rfl
theorem st284_count : setOk (KK w) 284 "count" = true := by kernel_rfl
/-- self.name = e on a fresh object -/
theorem s_field {x name : Str} {p ap pos : Pos} {e : PySem.Expr} {a C dx : Addr} {fs : List (Str × AV)} {Q : FV → En → Hp → Prop} (hv : ε.get x = some (.ref a)) (hx : f.env.kindOf x = some .local) (hs : setOk (KK w) C name = true) (hl : fs.length < 90)
    (h : E1 prog w f e ε H fun v H₁ => H₁ a = some (.inst C dx) ∧ H₁ dx = some (.ns fs) ∧ Q .next ε (H₁.put dx (.ns (nsPutL name v fs))))
    (hd : (x == ("__debug__" : Str)) = false := by decide) (hsw : swapsWith e (some (.Attribute (.Name x p) name ap)) pos.line f.env = pure false := by rfl) : S1 prog w f (exec (.Assign [.Attribute (.Name x p) name ap] e pos) f.env) ε H Q :=
  s_setAttr (h.mono fun v H₁ ⟨h1, h2, q⟩ => e_local hv hx ⟨a, C, dx, fs, rfl, h1, h2, hl, hs, q⟩ hd) hsw
/-- the maker is set up -/
theorem init_ok {x dx kr kdx pl : Addr} {kfs : List (Str × AV)} {Q : AV → Hp → Prop} (hx : H x = none) (hdx : H dx = none) (hne : x ≠ dx) (hk : H kr = some (.inst 284 kdx)) (hkd : H kdx = some (.ns kfs)) (hc : nsGetL "count" kfs = some (.int 5)) (hP : PlanOk H pl P)
    (q : ∀ M : Mk, M.x = x → M.dx = dx → M.pl = pl → M.Ok P (H.put x (.inst 265 dx)) → Q .none (M.put (H.put x (.inst 265 dx)) sg0)) :
    Ct prog w 63 2 [.ref x, .ref kr, .ref pl] ((H.put dx (.ns [])).put x (.inst 265 dx)) Q := by
  refine ct_def (fa := 63) (n := 1) rfl ?_ ?_ ?_ ?_ ?_ ?_ ?_ ?_
  · rfl
  · intro vs h
    rcases vs with _ | ⟨a, _ | ⟨b, _ | ⟨c, _ | _⟩⟩⟩ <;> first | rfl | (simp at h)
  · rfl
  · rfl
  · rfl
  · rfl
  · rfl
  · intro f A g L
    have e0 : (H.put dx (.ns [])).put x (.inst 265 dx) = (H.put x (.inst 265 dx)).put dx (.ns []) := put_comm hne.symm
    rw [e0]
    generalize hH1 : H.put x (.inst 265 dx) = H1 at *
    have h1x : H1 x = some (.inst 265 dx) := by rw [← hH1, put_get]
    have h1dx : H1 dx = none := by rw [← hH1, put_ne hne.symm]; exact hdx
    have g1 : ∀ fs, (H1.put dx (.ns fs)) x = some (.inst 265 dx) := fun fs => by rw [put_ne hne]; exact h1x
    refine s_cons (s_field (C := 265) (dx := dx) (a := x) (fs := []) rfl rfl st265_kernel (by exact Nat.le_of_ble_eq_true rfl) (e_local rfl rfl ⟨g1 _, put_get _ _ _, ?_⟩))
    rw [put_put]
    refine s_cons (s_field (C := 265) (dx := dx) (a := x) (fs := [("kernel", .ref kr)]) rfl rfl st265_plan (by exact Nat.le_of_ble_eq_true rfl) (e_local rfl rfl ⟨g1 _, put_get _ _ _, ?_⟩))
    rw [put_put]
    refine s_cons (s_field (C := 265) (dx := dx) (a := x) (fs := [("kernel", .ref kr), ("plan", .ref pl)]) rfl rfl st265_code (by exact Nat.le_of_ble_eq_true rfl) (e_list (es_nil ⟨Nat.le_of_ble_eq_true rfl, fun c hc' => ?_⟩)))
    have nc := put_none hc'
    refine ⟨put_old hc' (g1 _), put_old hc' (put_get _ _ _), ?_⟩
    rw [put_comm nc.1.symm, put_put]
    generalize hH2 : H1.put c (.list []) = H2
    have g2 : ∀ fs, (H2.put dx (.ns fs)) x = some (.inst 265 dx) := fun fs => by rw [put_ne hne, ← hH2]; exact put_old nc.2 h1x
    refine s_cons (s_field (C := 265) (dx := dx) (a := x) (fs := [("kernel", .ref kr), ("plan", .ref pl), ("code", .ref c)]) rfl rfl st265_seen (by exact Nat.le_of_ble_eq_true rfl) (e_callT0 (by kernel_rfl) rfl (by decide) rfl (cv_set0 true fun s hs' => ?_)))
    have ns := put_none hs'
    have nsc : s ≠ c ∧ H1 s = none := by have := ns.2; rw [← hH2] at this; exact put_none this
    refine ⟨put_old hs' (g2 _), put_old hs' (put_get _ _ _), ?_⟩
    rw [put_comm ns.1.symm, put_put]
    generalize hH3 : H2.put s (.set true fun _ => false) = H3
    have g3 : ∀ fs, (H3.put dx (.ns fs)) x = some (.inst 265 dx) := fun fs => by rw [put_ne hne, ← hH3]; exact put_old ns.2 (by rw [← hH2]; exact put_old nc.2 h1x)
    refine s_cons (s_field (C := 265) (dx := dx) (a := x) (fs := [("kernel", .ref kr), ("plan", .ref pl), ("code", .ref c), ("seen", .ref s)]) rfl rfl st265_local (by exact Nat.le_of_ble_eq_true rfl) (e_callT0 (by kernel_rfl) rfl (by decide) rfl (cv_set0 false fun l hl' => ?_)))
    have nl := put_none hl'
    have nls : l ≠ s ∧ H2 l = none := by have := nl.2; rw [← hH3] at this; exact put_none this
    have nlc : l ≠ c ∧ H1 l = none := by have := nls.2; rw [← hH2] at this; exact put_none this
    refine ⟨put_old hl' (g3 _), put_old hl' (put_get _ _ _), ?_⟩
    rw [put_comm nl.1.symm, put_put]
    generalize hH4 : H3.put l (.set false fun _ => false) = H4
    have up : ∀ a o, H1 a = some o → H4 a = some o := fun a o e => by rw [← hH4]; exact put_old nl.2 (by rw [← hH3]; exact put_old ns.2 (by rw [← hH2]; exact put_old nc.2 e))
    have up' : ∀ a o, a ≠ x → H a = some o → H1 a = some o := fun a o hne e => by rw [← hH1, put_ne hne]; exact e
    have hkrx : kr ≠ x := fun e => by rw [e, hx] at hk; cases hk
    have hkdx : kdx ≠ x := fun e => by rw [e, hx] at hkd; cases hkd
    have nkr : kr ≠ dx := fun e => by rw [e, hdx] at hk; cases hk
    have nkd : kdx ≠ dx := fun e => by rw [e, hdx] at hkd; cases hkd
    refine s_cons (s_field (C := 265) (dx := dx) (a := x) (fs := [("kernel", .ref kr), ("plan", .ref pl), ("code", .ref c), ("seen", .ref s), ("local", .ref l)]) rfl rfl st265_next (by exact Nat.le_of_ble_eq_true rfl) (e_attr (e_local rfl rfl ⟨kr, 284, kdx, kfs, _, rfl, by rw [put_ne nkr]; exact up _ _ (up' _ _ hkrx hk), by rw [put_ne nkd]; exact up _ _ (up' _ _ hkdx hkd), at284_count, hc, by rw [put_ne hne]; exact up _ _ h1x, put_get _ _ _, ?_⟩)))
    rw [put_put]
    refine s_nil ?_
    have hPH : PlanOk H1 pl P := hP.sub (by rw [← hH1]; exact Sub.fresh hx)
    have q' := q ⟨x, dx, c, s, l, kr, pl⟩ rfl rfl rfl ⟨h1x, h1dx, nc.2, nsc.2, nlc.2, nsc.1.symm, nlc.1.symm, nc.1, nls.1.symm, ns.1, nl.1, hPH⟩
    rw [← hH4, ← hH3, ← hH2]
    exact q'
theorem mk265 : makesIn (KK w) 265 = true := by kernel_rfl
theorem in265 : findIn (KK w) (.ref 265) "__init__" = some (some (.ref 63)) := by kernel_rfl
theorem fn63 : isFn (KK w) (.ref 63) = true := by kernel_rfl
theorem begun_ok {ts : List Tm} {cl cdx pl : Addr} {cfs : List (Str × AV)} {Q : AV → Hp → Prop} (hk : H cl = some (.inst 284 cdx)) (hkd : H cdx = some (.ns cfs)) (hc : nsGetL "count" cfs = some (.int 5)) (ha : nsGetL "args" cfs = some (.tup (ts.map Tm.enc))) (hP : PlanOk H pl P)
    (hd : ∀ t ∈ ts, t.dom P) (hz : ssum ts < 390)
    (q : ∀ M : Mk, M.pl = pl → H M.x = none → M.Ok P (H.put M.x (.inst 265 M.dx)) → Q (.ref M.x) (M.put (H.put M.x (.inst 265 M.dx)) (begunRun P ts).1)) : Ct prog w 477 17 [.ref cl, .ref pl] H Q := by
  refine ct_def (fa := 477) (n := 16) rfl ?_ ?_ ?_ ?_ ?_ ?_ ?_ ?_
  · rfl
  · intro vs h
    rcases vs with _ | ⟨a, _ | ⟨b, _ | _⟩⟩ <;> first | rfl | (simp at h)
  · rfl
  · rfl
  · rfl
  · rfl
  · rfl
  · intro f A g L
    refine s_cons (s_assign rfl (e_call (fa := .ref 265) (by kernel_rfl) (by kernel_rfl) rfl (es_cons (e_local rfl rfl (es_cons (e_local rfl rfl (es_nil ?_)))))))
    refine cv_make (n := 2) mk265 in265 fn63 (Nat.le_of_ble_eq_true rfl) fun x dx hx hdx hne => ?_
    refine init_ok hx hdx hne hk hkd hc hP fun M e1 e2 e3 K => ⟨rfl, ?_⟩
    subst e1 e2 e3
    have q' := q M rfl hx K
    have hk2 : ∀ σ, M.put (H.put M.x (.inst 265 M.dx)) σ cl = some (.inst 284 cdx) := fun σ => K.sub _ _ (put_old hx hk)
    have hkd2 : ∀ σ, M.put (H.put M.x (.inst 265 M.dx)) σ cdx = some (.ns cfs) := fun σ => K.sub _ _ (put_old hx hkd)
    refine s_cons (s_assign rfl (e_int ?_))
    refine s_cons (s_forTup rfl (e_attr (e_local rfl rfl ⟨cl, 284, cdx, cfs, _, rfl, hk2 _, hkd2 _, at284_args, ha, _, rfl, fun i ε H' => ε.get "maker" = some (.ref M.x) ∧ ε.get "number" = some (.int (begunRun P (ts.take i)).2) ∧ H' = M.put (H.put M.x (.inst 265 M.dx)) (begunRun P (ts.take i)).1, ⟨rfl, rfl, rfl⟩, ?_, ?_⟩)))
    · intro i ε H' p hi hh
      refine and3 hh fun h1 h2 hq02 => ?_
      clear hh
      subst hq02
      have hi' : i < ts.length := by simpa using hi
      rw [getD_map ts hi']
      have es := begun_succ P hi'
      have hl := begun_len P (ts.take i) (sg0, 0)
      have hst := ssum_take ts i
      have hsg := ssum_get hi'
      have hbl : (begunRun P (ts.take i)).1.code.length ≤ 6 * ssum (ts.take i) := by have e : (sg0, 0).1.code.length = 0 := rfl; unfold begunRun; omega
      have hdt := hd _ (List.getElem_mem hi')
      generalize begunRun P (ts.take i) = s at *
      obtain ⟨σ, n⟩ := s
      dsimp only at h2 hbl ⊢
      refine s_cons (s_augAdd h2 rfl (e_int ⟨1, rfl, ?_⟩))
      refine s_cons (s_expr (e_mcall K (by exact h1) rfl me_head rfl (es_cons (e_local rfl rfl (es_cons (e_tuple (es_cons (e_str (es_cons (e_local rfl rfl (es_nil ⟨Nat.le_of_ble_eq_true rfl, es_nil ?_⟩)))))))))))
      refine cv_def (head_ok K hdt (by omega) (by omega) ⟨rfl, ?_⟩) (Nat.le_of_ble_eq_true rfl)
      refine s_nil ?_
      change (_ ∧ _ ∧ _)
      rw [es]
      refine ⟨h1, ?_, ?_⟩
      · show some (AV.int ((n : Int) + 1)) = some (.int ((n + 1 : Nat) : Int))
        rw [Int.natCast_succ]
      · have : headSrc (n + 1) = .tup [.str "a", .int ((n : Int) + 1)] := by unfold headSrc; rw [Int.natCast_succ]
        rw [this]
    · intro ε H' hh
      refine and3 hh fun h1 h2 hq02 => ?_
      clear hh
      subst hq02
      rw [List.length_map, List.take_length]
      exact s_cons (s_return (e_local h1 rfl q'))
end
end Mine
set_option Elab.async false
set_option linter.unusedVariables false
set_option linter.unusedSimpArgs false
set_option maxRecDepth 100000
namespace Mine
open PySem PySem.W PySem.Calls PySem.Spec PyProof.Rows
/-! every instruction is plain data -/
noncomputable def Sg.good (σ : Sg) : Prop := ∀ d ∈ σ.code, fit 8 d = true
theorem good_emit {σ : Sg} {d : AV} (h : σ.good) (hd : fit 8 d = true) : (σ.emit d).good := fun x hx => by
  rcases List.mem_append.mp hx with h1 | h1
  · exact h x h1
  · rw [List.mem_singleton.mp h1]; exact hd
theorem good_see {σ : Sg} {k : Nat} (h : σ.good) : (σ.see k).good := h
theorem good_addL {σ : Sg} {k : Nat} (h : σ.good) : (σ.addL k).good := h
theorem good_delL {σ : Sg} {k : Nat} (h : σ.good) : (σ.delL k).good := h
theorem good_newT {σ : Sg} (h : σ.good) : (σ.newT).good := h
noncomputable def small (d : AV) : Bool := fit 7 d
theorem sm_reg (n : Int) : fit 7 (reg n) = true := by
  have : PyData.strOk ("t" : Str) = true := by kernel_rfl
  simp [reg, fit, this]
theorem sm_plc (P : Pl) (k : Nat) : fit 7 (P.plc k) = true := by
  have : PyData.strOk ("y" : Str) = true := by kernel_rfl
  unfold Pl.plc
  split
  · simp [fit, this]
  · exact sm_reg _
theorem sm_cc (t : Tm) : fit 7 t.cc = true := by unfold Tm.cc; simp [fit]
theorem fit1 {x : Str} {a : AV} (hx : PyData.strOk x = true) (ha : fit 7 a = true) : fit 8 (.tup [.str x, a]) = true := by simp [fit, hx, ha]
theorem fit2 {x : Str} {a b : AV} (hx : PyData.strOk x = true) (ha : fit 7 a = true) (hb : fit 7 b = true) : fit 8 (.tup [.str x, a, b]) = true := by simp [fit, hx, ha, hb]
theorem fit_int (n : Int) : fit 7 (.int n) = true := rfl
theorem good_mvar {P : Pl} {σ : Sg} {k : Nat} (h : σ.good) : (σ.mvar P k).good := by
  unfold Sg.mvar
  split
  · exact good_emit (good_see h) (fit1 (by kernel_rfl) (sm_plc _ _))
  · split
    · exact good_emit h (fit1 (by kernel_rfl) (sm_plc _ _))
    · exact good_emit h (fit1 (by kernel_rfl) (sm_plc _ _))
theorem good_svar {P : Pl} {σ : Sg} {k : Nat} (h : σ.good) : (σ.svar P k).good := by
  unfold Sg.svar
  split
  · exact good_emit (good_see h) (fit1 (by kernel_rfl) (sm_plc _ _))
  · split
    · split
      · exact good_delL (good_emit h (fit1 (by kernel_rfl) (sm_plc _ _)))
      · exact good_emit h (fit1 (by kernel_rfl) (sm_plc _ _))
    · exact good_emit h (fit1 (by kernel_rfl) (sm_plc _ _))
theorem good_flush {σ : Sg} {op : Str} {vo : Nat} (h : σ.good) (ho : PyData.strOk op = true) : (σ.flush op vo).good := by
  unfold Sg.flush
  split
  · exact good_emit h (fit1 ho (fit_int _))
  · exact h
theorem good_ma {P : Pl} : ∀ (ts : List Tm) (a : MA), a.σ.good → (ts.foldl (maStep P) a).σ.good
  | [], _, h => h
  | t :: r, a, h => by
    rw [List.foldl_cons]
    refine good_ma r _ ?_
    have hf := good_flush (op := "unify_void") (vo := a.vo) h (by kernel_rfl)
    unfold maStep
    split
    · exact h
    · dsimp only
      split
      · exact good_mvar hf
      · split
        · exact good_emit (good_newT hf) (fit1 (by kernel_rfl) (sm_reg _))
        · exact good_emit hf (fit1 (by kernel_rfl) (sm_cc _))
theorem good_maOut {P : Pl} {σ : Sg} {ts : List Tm} (h : σ.good) : (maOut P σ ts).good := good_flush (good_ma ts _ h) (by kernel_rfl)
theorem good_match {P : Pl} : ∀ (n : Nat) (σ : Sg) (stk : List (Tm × AV)), σ.good → (∀ p ∈ stk, fit 7 p.2 = true) → (matchRun P n σ stk).good
  | 0, _, _, h, _ => h
  | _ + 1, _, [], h, _ => h
  | n + 1, σ, p :: stk, h, hr => by
    unfold matchRun
    have hp := hr p (.head _)
    refine good_match n _ _ (good_maOut (good_emit h ?_)) ?_
    · unfold getI
      split
      · exact fit1 (by kernel_rfl) hp
      · exact fit2 (by kernel_rfl) (fit_int _) hp
    · intro q hq
      rcases List.mem_append.mp hq with hq | hq
      · have key : ∀ (ts : List Tm) (a : MA), (∀ q ∈ a.nes, fit 7 q.2 = true) → ∀ q ∈ (ts.foldl (maStep P) a).nes, fit 7 q.2 = true := by
          intro ts
          induction ts with
          | nil => intro a h; exact h
          | cons t r ih =>
            intro a h
            rw [List.foldl_cons]
            refine ih _ ?_
            unfold maStep
            split
            · exact h
            · dsimp only
              split
              · exact h
              · split
                · intro q hq
                  rcases List.mem_append.mp hq with hq | hq
                  · exact h q hq
                  · rw [List.mem_singleton.mp hq]; exact sm_reg _
                · exact h
        exact key _ _ (by intro q hq; cases hq) q hq
      · exact hr q (.tail _ hq)
theorem good_head {P : Pl} {σ : Sg} {t : Tm} {r : AV} (h : σ.good) (hr : fit 7 r = true) : (headArg P σ t r).good := by
  unfold headArg
  split
  · split
    · exact h
    · split
      · exact good_emit h (fit2 (by kernel_rfl) (sm_plc _ _) hr)
      · exact good_emit (good_addL (good_see h)) (fit2 (by kernel_rfl) (sm_plc _ _) hr)
  · split
    · exact good_match _ _ _ h (by intro p hp; rw [List.mem_singleton.mp hp]; exact hr)
    · exact good_emit h (fit2 (by kernel_rfl) (sm_cc _) hr)
theorem good_sa {P : Pl} : ∀ (ts : List Pc) (a : SA), a.σ.good → (∀ p ∈ ts, p.isV = false → p.isR = false → fit 7 p.cc = true) → (ts.foldl (saStep P) a).σ.good
  | [], _, h, _ => h
  | t :: r, a, h, hc => by
    rw [List.foldl_cons]
    refine good_sa r _ ?_ fun p hp => hc p (.tail _ hp)
    have hf := good_flush (op := "set_void") (vo := a.vo) h (by kernel_rfl)
    unfold saStep
    split
    · exact h
    · dsimp only
      split
      · exact good_svar hf
      · split
        · rename_i hr
          cases t with
          | tm u => cases hr
          | rg n => exact good_emit hf (fit1 (by kernel_rfl) (sm_reg _))
        · rename_i hv hr
          exact good_emit hf (fit1 (by kernel_rfl) (hc t (.head _) (by simpa using hv) (by simpa using hr)))
theorem good_saOut {P : Pl} {σ : Sg} {ts : List Pc} (h : σ.good) : (saOut P σ ts).good := good_flush (good_sa ts _ h (by
  intro p hp _ hr
  cases p with
  | tm u => exact sm_cc u
  | rg n => cases hr)) (by kernel_rfl)
theorem good_bSg {σ : Sg} {wk : List (Bool × Tm)} (h : σ.good) : (bSg σ wk).good := by unfold bSg; split <;> exact h
theorem good_build {P : Pl} {tg : Int} : ∀ (n : Nat) (σ : Sg) (wk : List (Bool × Tm)) (bs : List Int), σ.good → (buildRun P tg n σ wk bs).good
  | 0, _, _, _, h => h
  | _ + 1, _, [], _, h => h
  | n + 1, σ, (false, t) :: wk, bs, h => by unfold buildRun; exact good_build n _ _ _ h
  | n + 1, σ, (true, t) :: wk, bs, h => by
    unfold buildRun
    refine good_build n _ _ _ (good_saOut (good_emit (good_bSg h) ?_))
    unfold putI
    split
    · exact fit1 (by kernel_rfl) (sm_reg _)
    · exact fit2 (by kernel_rfl) (fit_int _) (sm_reg _)
theorem good_fresh {P : Pl} {σ : Sg} {k : Nat} (h : σ.good) : (freshS P σ k).good := by unfold freshS; split <;> exact h
theorem good_settle {P : Pl} {σ : Sg} {k : Nat} {r : AV} (h : σ.good) (hr : fit 7 r = true) : (settle P σ k r).good := by
  unfold settle
  split
  · exact good_emit (good_see h) (fit2 (by kernel_rfl) (sm_plc _ _) hr)
  · exact good_see h
theorem good_load {P : Pl} {σ : Sg} {k : Nat} {r : AV} (h : σ.good) (hr : fit 7 r = true) : (loadS P σ k r).good := by
  unfold loadS
  split
  · exact good_emit h (fit2 (by kernel_rfl) (sm_plc _ _) hr)
  · exact good_emit h (fit2 (by kernel_rfl) (sm_plc _ _) hr)
theorem good_regOf {P : Pl} {σ : Sg} {k : Nat} (h : σ.good) : (regOfS P σ k).good := by
  unfold regOfS
  split
  · exact h
  · exact good_load (good_newT h) (sm_reg _)
theorem good_intro {P : Pl} {σ : Sg} {k : Nat} (h : σ.good) : (introduce P σ k).good := by
  unfold introduce
  split
  · exact h
  · exact good_settle (good_emit (good_fresh h) (fit1 (by kernel_rfl) (sm_reg _))) (sm_reg _)
theorem good_alias {P : Pl} {σ : Sg} {k old : Nat} (h : σ.good) : (aliasS P σ k old).good := by
  have h2 : (if σ.loc old then σ.addL k else σ).good := by split <;> exact h
  unfold aliasS
  split
  · exact h
  · split
    · exact good_settle (good_load (good_fresh h) (sm_reg _)) (sm_reg _)
    · split
      · exact good_emit (good_see h2) (fit2 (by kernel_rfl) (sm_plc _ _) (sm_plc _ _))
      · exact good_emit (good_see h2) (fit2 (by kernel_rfl) (sm_plc _ _) (sm_plc _ _))
theorem good_uvv {P : Pl} {σ : Sg} {j k : Nat} (h : σ.good) : (uvv P σ j k).good := by
  unfold uvv
  split
  · split
    · exact h
    · split
      · exact good_emit (good_regOf h) (fit2 (by kernel_rfl) (sm_plc _ _) (sm_reg _))
      · exact good_emit h (fit2 (by kernel_rfl) (sm_plc _ _) (sm_plc _ _))
  · split
    · exact good_alias h
    · split
      · exact good_alias h
      · split
        · exact good_intro h
        · split
          · exact good_alias (good_intro h)
          · exact good_intro (good_intro h)
theorem good_uwv {P : Pl} {σ : Sg} {k : Nat} {t : Tm} (h : σ.good) : (uwv P σ k t).good := by
  unfold uwv
  split
  · exact good_uvv h
  · have hp : (uwPre P σ k t).good := by unfold uwPre; split; exact good_intro h; exact h
    unfold uwRest
    split
    · unfold uwSeen
      split
      · exact good_match _ _ _ (good_regOf hp) (by intro p hp; rw [List.mem_singleton.mp hp]; exact sm_reg _)
      · exact good_emit (good_regOf hp) (fit2 (by kernel_rfl) (sm_cc _) (sm_reg _))
    · split
      · unfold uwVoid
        split
        · exact good_build _ _ _ _ (good_newT hp)
        · exact hp
      · refine good_settle ?_ (sm_reg _)
        unfold uwPut
        split
        · exact good_build _ _ _ _ (good_fresh hp)
        · exact good_emit (good_fresh hp) (fit2 (by kernel_rfl) (sm_cc _) (sm_reg _))
theorem good_unify {P : Pl} : ∀ (n : Nat) (σ : Sg) (stk : List (Tm × Tm)), σ.good → (unifyRun P n σ stk).good
  | 0, _, _, h => h
  | _ + 1, _, [], h => h
  | n + 1, σ, p :: stk, h => by
    unfold unifyRun
    dsimp only
    generalize (if (!p.1.isV && p.2.isV) = true then p.2 else p.1) = one
    generalize (if (!p.1.isV && p.2.isV) = true then p.1 else p.2) = other
    split
    · exact good_unify n _ _ (good_uwv h)
    · split
      · exact good_unify n _ _ h
      · split
        · refine good_unify n _ _ (good_emit h ?_)
          have : PyData.strOk ("fail" : Str) = true := by kernel_rfl
          simp [fit, this]
        · exact good_unify n _ _ h
theorem good_begun {P : Pl} : ∀ (ts : List Tm) (s : Sg × Nat), s.1.good → (ts.foldl (fun s t => (headArg P s.1 t (headSrc (s.2 + 1)), s.2 + 1)) s).1.good
  | [], _, h => h
  | t :: r, s, h => by
    rw [List.foldl_cons]
    refine good_begun r _ (good_head h ?_)
    have : PyData.strOk ("a" : Str) = true := by kernel_rfl
    simp [headSrc, fit, this]
theorem good_begunRun (P : Pl) (ts : List Tm) : (begunRun P ts).1.good := good_begun ts _ (by intro d hd; cases hd)
theorem good_due {P : Pl} : ∀ (ks : List Nat) (σ : Sg), σ.good → (dueAll P σ ks).good
  | [], _, h => h
  | k :: r, σ, h => by
    unfold dueAll
    rw [List.foldl_cons]
    refine good_due r _ ?_
    unfold dueStep
    split
    · exact h
    · have hy : fit 7 (.tup [.str "y", .int (P.sl k)]) = true := by
        have : PyData.strOk ("y" : Str) = true := by kernel_rfl
        simp [fit, this]
      split
      · exact good_emit (good_emit h (fit1 (by kernel_rfl) (sm_reg _))) (fit2 (by kernel_rfl) hy (sm_reg _))
      · exact good_emit h (fit1 (by kernel_rfl) (sm_reg _))
end Mine
set_option Elab.async false
set_option linter.unusedVariables false
set_option maxRecDepth 100000
namespace Mine
open PySem PySem.W PySem.Calls PySem.Spec PyProof.Rows
theorem due_succ (P : Pl) (σ : Sg) {ks : List Nat} {i : Nat} (h : i < ks.length) : dueAll P σ (ks.take (i + 1)) = dueStep P (dueAll P σ (ks.take i)) ks[i] := by
  unfold dueAll
  rw [take_succ_get h, List.foldl_append]; rfl
theorem getD_avn (ks : List Nat) {i : Nat} (h : i < ks.length) : (avn ks).getD i .none = .int (ks[i] : Int) := by
  unfold avn avi
  rw [List.map_map, List.getD_eq_getElem?_getD, List.getElem?_map, List.getElem?_eq_getElem h]; rfl
theorem any_mem (l : List Int) (k : Int) : l.any (· == k) = true ↔ k ∈ l := by
  rw [List.any_eq_true]
  constructor
  · rintro ⟨x, h1, h2⟩; rw [← beq_iff_eq.mp h2]; exact h1
  · intro h; exact ⟨k, h, by simp⟩
theorem dueStep_new (P : Pl) (σ : Sg) (k : Nat) (h : σ.seen k = false) : dueStep P σ k = if 0 < P.sl k then { code := σ.code ++ [.tup [.str "put_void", reg σ.nxt]] ++ [.tup [.str "get_variable", .tup [.str "y", .int (P.sl k)], reg σ.nxt]], seen := Sadd σ.seen k, loc := σ.loc, nxt := σ.nxt + 1 }
  else { code := σ.code ++ [.tup [.str "put_void", reg k]], seen := Sadd σ.seen k, loc := σ.loc, nxt := σ.nxt } := by unfold dueStep; rw [if_neg (by rw [h]; decide)]
section
variable {prog : Program} {w : World} {f : Fm} {ε : En} {H : Hp} {P : Pl} {M : Mk} {σ : Sg}
set_option maxHeartbeats 4000000 in
theorem itself_ok {t : Tm} {Q : AV → Hp → Prop} (K : M.Ok P H) (hd : t.dom P) (hv : ∀ k ∈ t.vars, P.vd k = false ∧ (0 < P.sl k ↔ P.pm k = true)) (hg : σ.good) (hl : σ.code.length < 500000) (hz : t.size < 8)
    (q : Q (.bool true) (M.put H (dueAll P σ t.vars))) : Ct prog w 484 20 [.ref M.x, .ref M.pl, t.enc] (M.put H σ) Q := by
  refine Ct.weak (ct_def (fa := 484) (n := 19) rfl ?_ ?_ ?_ ?_ ?_ ?_ ?_ ?_)
  · rfl
  · intro vs h
    rcases vs with _ | ⟨a, _ | ⟨b, _ | ⟨c, _ | _⟩⟩⟩ <;> first | rfl | (simp at h)
  · rfl
  · rfl
  · rfl
  · rfl
  · rfl
  · intro f A g L
    have hvl := vars_len t
    refine s_cons (s_assign rfl (e_callT (by kernel_rfl) rfl (by decide) rfl (es_cons (e_mattr K rfl rfl rfl at265_code (es_nil (cv_list K.pc (by omega) fun y hy => ?_))))))
    obtain ⟨K1, e1⟩ := K.new (.list σ.code) hy
    rw [e1]
    refine s_cons (s_assign rfl (e_mattr K1 rfl rfl rfl at265_next ?_))
    refine s_cons (s_assign rfl (e_callB (by kernel_rfl) rfl (by decide) rfl (es_cons (e_mattr K1 rfl rfl rfl at265_seen (es_nil (cv_sortedS K1.ps fun z ns hz0 hnl hns => ?_))))))
    obtain ⟨K2, e2⟩ := K1.new (.list (avi ns)) hz0
    rw [e2]
    have hzy : z ≠ y := fun e => by
      have h := K1.sub (σ := σ) _ _ (put_get H y _)
      have h' := hz0
      rw [e, h] at h'; cases h'
    have hyH := K.sub.none hy
    have hzH : H z = none := by have := K1.sub.none hz0; exact (put_none this).2
    refine s_cons (s_forList rfl (e_call g_names k_names rfl (es_cons (e_local rfl rfl (es_nil (cv_def (names_ok 8 (t := t) (by omega) (by decide) fun nm hnm => ?_) (Nat.le_of_ble_eq_true rfl)))))))
    obtain ⟨K3, e3⟩ := K2.new (.list (avn t.vars)) hnm
    rw [e3]
    have hnmH := K2.sub.none hnm
    obtain ⟨hnz, hnmH⟩ := put_none hnmH
    obtain ⟨hny, hnmH⟩ := put_none hnmH
    -- the ground
    have G0 : ∀ dl ml τ, M.Ok P (((H.put y (.list dl)).put z (.list (avi ml))).put nm (.list (avn t.vars))) ∧
        (∀ dl', (M.put (((H.put y (.list dl)).put z (.list (avi ml))).put nm (.list (avn t.vars))) τ).put y (.list dl') = M.put (((H.put y (.list dl')).put z (.list (avi ml))).put nm (.list (avn t.vars))) τ) ∧
        (∀ ml', (M.put (((H.put y (.list dl)).put z (.list (avi ml))).put nm (.list (avn t.vars))) τ).put z (.list (avi ml')) = M.put (((H.put y (.list dl)).put z (.list (avi ml'))).put nm (.list (avn t.vars))) τ) := fun dl ml τ => by
      have A1 := (K3.turnL (σ := σ) (a := y) (l := σ.code) (by rw [put_ne hny.symm, put_ne hzy.symm, put_get]) dl).1
      rw [put_comm hny, put_comm hzy, put_put] at A1
      have A2 := (A1.turnL (σ := σ) (a := z) (l := avi ns) (by rw [put_ne hnz.symm, put_get]) (avi ml)).1
      rw [put_comm hnz, put_put] at A2
      refine ⟨A2, fun dl' => ?_, fun ml' => ?_⟩
      · have := (A2.turnL (σ := τ) (a := y) (l := dl) (by rw [put_ne hny.symm, put_ne hzy.symm, put_get]) dl').2
        rw [this, put_comm hny, put_comm hzy, put_put]
      · have := (A2.turnL (σ := τ) (a := z) (l := avi ml) (by rw [put_ne hnz.symm, put_get]) (avi ml')).2
        rw [this, put_comm hnz, put_put]
    have Gy : ∀ dl ml τ, M.put (((H.put y (.list dl)).put z (.list (avi ml))).put nm (.list (avn t.vars))) τ y = some (.list dl) := fun dl ml τ => (G0 dl ml τ).1.sub _ _ (by rw [put_ne hny.symm, put_ne hzy.symm, put_get])
    have Gz : ∀ dl ml τ, M.put (((H.put y (.list dl)).put z (.list (avi ml))).put nm (.list (avn t.vars))) τ z = some (.list (avi ml)) := fun dl ml τ => (G0 dl ml τ).1.sub _ _ (by rw [put_ne hnz.symm, put_get])
    have Gn : ∀ dl ml τ, M.put (((H.put y (.list dl)).put z (.list (avi ml))).put nm (.list (avn t.vars))) τ nm = some (.list (avn t.vars)) := fun dl ml τ => (G0 dl ml τ).1.sub _ _ (put_get _ _ _)
    refine ⟨nm, avn t.vars, rfl, Gn _ _ _, fun i ε H' => ∃ ml, ml.length ≤ 5 + i ∧ (∀ k : Int, k ∈ ml ↔ (dueAll P σ (t.vars.take i)).seen k = true) ∧ ε.get "maker" = some (.ref M.x) ∧ ε.get "plan" = some (.ref M.pl) ∧ ε.get "part" = some t.enc ∧ ε.get "due" = some (.ref y) ∧ ε.get "met" = some (.ref z) ∧
      ε.get "fresh_number" = some (.int (dueAll P σ (t.vars.take i)).nxt) ∧ H' = M.put (((H.put y (.list (dueAll P σ (t.vars.take i)).code)).put z (.list (avi ml))).put nm (.list (avn t.vars))) σ,
      ⟨ns, hnl, hns, rfl, rfl, rfl, rfl, rfl, rfl, rfl⟩, ?_, ?_, ?_⟩
    · intro i ε H' hh
      refine Exists.elim hh fun ml hh1 => and9 hh1 fun _ _ _ _ _ _ _ _ hq08 => ?_
      clear hh1 hh
      subst hq08
      exact Gn _ _ _
    · intro i ε H' p hi hh
      refine Exists.elim hh fun ml hh1 => and9 hh1 fun hml hmk h1 h2 h3 h4 h5 h6 hq08 => ?_
      clear hh1 hh
      subst hq08
      rw [avn_len] at hi
      rw [getD_avn _ hi]
      have es := due_succ P σ hi
      have hkm := List.getElem_mem hi
      have hkv := hv _ hkm
      have hkd := hd _ hkm
      have hdl := dueAll_len P (t.vars.take i) σ
      have htl : (t.vars.take i).length ≤ 8 := by rw [List.length_take]; omega
      generalize hk : t.vars[i] = k at *
      generalize dueAll P σ (t.vars.take i) = τ at *
      obtain ⟨K4, F1, F2⟩ := G0 τ.code ml σ
      have fin : ∀ {τ' : Sg} {ml' : List Int} {ε₁ : En} {H₁ : Hp}, dueStep P τ k = τ' → ml'.length ≤ 5 + (i + 1) → (∀ k : Int, k ∈ ml' ↔ τ'.seen k = true) → (ε₁.get "maker" = some (.ref M.x) ∧ ε₁.get "plan" = some (.ref M.pl) ∧ ε₁.get "part" = some t.enc ∧ ε₁.get "due" = some (.ref y) ∧ ε₁.get "met" = some (.ref z) ∧
          ε₁.get "fresh_number" = some (.int τ'.nxt) ∧ H₁ = M.put (((H.put y (.list τ'.code)).put z (.list (avi ml'))).put nm (.list (avn t.vars))) σ) →
          ∃ ml, ml.length ≤ 5 + (i + 1) ∧ (∀ k : Int, k ∈ ml ↔ (dueAll P σ (t.vars.take (i + 1))).seen k = true) ∧ ε₁.get "maker" = some (.ref M.x) ∧ ε₁.get "plan" = some (.ref M.pl) ∧ ε₁.get "part" = some t.enc ∧ ε₁.get "due" = some (.ref y) ∧ ε₁.get "met" = some (.ref z) ∧
      ε₁.get "fresh_number" = some (.int (dueAll P σ (t.vars.take (i + 1))).nxt) ∧ H₁ = M.put (((H.put y (.list (dueAll P σ (t.vars.take (i + 1))).code)).put z (.list (avi ml))).put nm (.list (avn t.vars))) σ := fun e a b c => by
        rw [es, e]; exact ⟨_, a, b, c⟩
      refine s_cons (s_if (t_cmp (Nat.le_of_ble_eq_true rfl) (e_local rfl rfl (e_local (by exact h5) rfl ⟨_, c_inL _ (Gz _ _ _), fun hc => ?_, fun hc => ?_⟩))))
      · have hsk : τ.seen k = true := (hmk _).mp ((any_mem _ _).mp hc)
        refine s_cons (s_continue ?_)
        refine fin (τ' := τ) (by unfold dueStep; rw [if_pos hsk]) (by omega) hmk ⟨h1, h2, h3, h4, h5, h6, rfl⟩
      · have hsk : τ.seen k = false := by
          cases q0 : τ.seen k with
          | false => rfl
          | true => rw [(any_mem _ _).mpr ((hmk _).mpr q0)] at hc; cases hc
        have hds := dueStep_new P τ k hsk
        have hml' : ∀ j : Int, j ∈ ml ++ [(k : Int)] ↔ Sadd τ.seen k j = true := fun j => by
          rw [List.mem_append, List.mem_singleton, hmk]
          unfold Sadd
          simp
        refine s_nil (s_cons (s_expr (e_methB (e_local (by exact h5) rfl ⟨z, _, rfl, mb_append (Gz _ _ _), es_cons (e_local rfl rfl (es_nil (cv_append (Gz _ _ _) (by simp [avi]; omega) ⟨rfl, ?_⟩)))⟩))))
        have ea : avi ml ++ [AV.int (k : Int)] = avi (ml ++ [(k : Int)]) := by simp [avi]
        rw [ea, F2]
        obtain ⟨K5, F3, F4⟩ := G0 τ.code (ml ++ [(k : Int)]) σ
        obtain ⟨pdx, pfs, inf, l, p1, p2, p3, p4, p5, p6⟩ := K5.plan.sub (K5.sub (σ := σ))
        obtain ⟨hk5, a, adx, afs, a1, a2, a3, a4, a5⟩ := p6 k hkd
        refine s_cons (s_if (t_cmp (Nat.le_of_ble_eq_true rfl) (e_attr (e_itemD (e_attr (e_local (by exact h2) rfl ⟨_, _, _, _, _, rfl, p1, p2, at375_infos, p3, e_local rfl rfl ⟨_, _, _, _, rfl, rfl, p4, a1, a, _, adx, afs, _, rfl, a2, a3, at319_slot, a5, e_int ⟨_, c_gt _ _, fun hc => ?_, fun hc => ?_⟩⟩⟩))))))
        · have hsl : 0 < P.sl k := of_decide_eq_true hc
          rw [if_pos hsl] at hds
          refine s_cons (s_expr (e_methB (e_local (by exact h4) rfl ⟨y, _, rfl, mb_append (Gy _ _ _), es_cons (e_tuple (es_cons (e_str (es_cons (e_tuple (es_cons (e_str (es_cons (e_local (by exact h6) rfl (es_nil ⟨Nat.le_of_ble_eq_true rfl, es_nil ⟨Nat.le_of_ble_eq_true rfl, es_nil (cv_append (Gy _ _ _) (by omega) ⟨rfl, ?_⟩)⟩⟩))))))))))⟩)))
          rw [F3]
          obtain ⟨K6, F5, F6⟩ := G0 (τ.code ++ [.tup [.str "put_void", .tup [.str "t", .int τ.nxt]]]) (ml ++ [(k : Int)]) σ
          obtain ⟨pdx, pfs, inf, l, p1, p2, p3, p4, p5, p6⟩ := K6.plan.sub (K6.sub (σ := σ))
          obtain ⟨hk5, a, adx, afs, a1, a2, a3, a4, a5⟩ := p6 k hkd
          refine s_cons (s_expr (e_methB (e_local (by exact h4) rfl ⟨y, _, rfl, mb_append (Gy _ _ _), es_cons (e_tuple (es_cons (e_str (es_cons (e_tuple (es_cons (e_str (es_cons (e_attr (e_itemD (e_attr (e_local (by exact h2) rfl ⟨_, _, _, _, _, rfl, p1, p2, at375_infos, p3, e_local rfl rfl ⟨_, _, _, _, rfl, rfl, p4, a1, a, _, adx, afs, _, rfl, a2, a3, at319_slot, a5, es_nil ⟨Nat.le_of_ble_eq_true rfl,
            es_cons (e_tuple (es_cons (e_str (es_cons (e_local (by exact h6) rfl (es_nil ⟨Nat.le_of_ble_eq_true rfl, es_nil ⟨Nat.le_of_ble_eq_true rfl, es_nil (cv_append (Gy _ _ _) (by simp; omega) ⟨rfl, ?_⟩)⟩⟩))))))⟩⟩⟩))))))))))))⟩)))
          rw [F5]
          refine s_cons (s_augAdd (by exact h6) rfl (e_int ⟨1, rfl, ?_⟩))
          refine s_nil (s_nil ?_)
          exact fin hds (by simp; omega) hml' ⟨h1, h2, h3, h4, h5, rfl, rfl⟩
        · have hsl : ¬ 0 < P.sl k := of_decide_eq_false hc
          rw [if_neg hsl] at hds
          refine s_cons (s_expr (e_methB (e_local (by exact h4) rfl ⟨y, _, rfl, mb_append (Gy _ _ _), es_cons (e_tuple (es_cons (e_str (es_cons (e_tuple (es_cons (e_str (es_cons (e_local rfl rfl (es_nil ⟨Nat.le_of_ble_eq_true rfl, es_nil ⟨Nat.le_of_ble_eq_true rfl, es_nil (cv_append (Gy _ _ _) (by omega) ⟨rfl, ?_⟩)⟩⟩))))))))))⟩)))
          rw [F3]
          refine s_nil (s_nil ?_)
          exact fin hds (by simp; omega) hml' ⟨h1, h2, h3, h4, h5, h6, rfl⟩
    · intro ε H' hh
      refine Exists.elim hh fun ml hh1 => and9 hh1 fun hml hmk h1 h2 h3 h4 h5 h6 hq08 => ?_
      clear hh1 hh
      subst hq08
      rw [avn_len, List.take_length] at h6 ⊢
      have hgd := good_due (P := P) t.vars σ hg
      have hll := dueAll_len P t.vars σ
      have hall := due_all P t.vars σ hv
      have hid := dueAll_id P t.vars (dueAll P σ t.vars) (dueAll_seen P t.vars σ)
      have hall2 := due_all P t.vars (dueAll P σ t.vars) hv
      rw [hid] at hall2
      generalize dueAll P σ t.vars = τ at *
      obtain ⟨K4, F1, F2⟩ := G0 τ.code ml σ
      refine s_cons (s_forRange rfl (e_callT (by kernel_rfl) rfl (by decide) rfl (es_cons (e_int (es_nil (cv_range fun r hr => ?_))))))
      obtain ⟨K5, e5⟩ := K4.new (.rng 2) hr
      rw [e5]
      have hrH := K4.sub.none hr
      have hry : y ≠ r := fun e => by rw [← e, Gy] at hr; cases hr
      refine ⟨r, 2, rfl, K5.sub _ _ (put_get _ _ _), by decide, fun i ε H' => ε.get "maker" = some (.ref M.x) ∧ ε.get "part" = some t.enc ∧ ε.get "due" = some (.ref y) ∧ ε.get "fresh_number" = some (.int τ.nxt) ∧
        H' = M.put ((((H.put y (.list τ.code)).put z (.list (avi ml))).put nm (.list (avn t.vars))).put r (.rng 2)) (if i = 0 then σ else τ), ⟨h1, h3, h4, h6, rfl⟩, ?_, ?_⟩
      · intro i ε H' p hi hh
        refine and5 hh fun g1 g2 g3 g4 hq04 => ?_
        clear hh
        subst hq04
        have hy2 : ∀ τ', M.put ((((H.put y (.list τ.code)).put z (.list (avi ml))).put nm (.list (avn t.vars))).put r (.rng 2)) τ' y = some (.list τ.code) := fun τ' => K5.sub _ _ (by rw [put_ne hry, put_ne hny.symm, put_ne hzy.symm, put_get])
        have hun : unifyRun P (t.size + t.size) (if i = 0 then σ else τ) [(t, t)] = τ := by
          rw [unify_self]
          split
          · exact hall
          · exact hall2
        refine s_cons (s_expr (e_mcall K5 (by exact g1) rfl me_unify rfl (es_cons (e_local (by exact g2) rfl (es_cons (e_local (by exact g2) rfl (es_nil ?_)))))))
        refine cv_def (unify_ok K5 hd hd (by split <;> omega) (by omega) ⟨rfl, ?_⟩) (Nat.le_of_ble_eq_true rfl)
        rw [hun]
        refine s_cons (s_if (T1.mono (Q := fun b H₁ => b = false ∧ H₁ = M.put ((((H.put y (.list τ.code)).put z (.list (avi ml))).put nm (.list (avn t.vars))).put r (.rng 2)) τ) ?_ fun b H₁ ⟨eb, eH⟩ => ⟨fun hb => ?_, fun hb => ?_⟩))
        · refine t_or (t_cmp (Nat.le_of_ble_eq_true rfl) (e_mattr K5 (by exact g1) rfl rfl at265_code (e_local (by exact g3) rfl ⟨_, c_neL K5.pc (hy2 _) hgd hgd, fun hc => ?_, fun hc => ?_⟩)))
          · rw [eqvAll_self] at hc; cases hc
          · refine t_or (t_cmp (Nat.le_of_ble_eq_true rfl) (e_mattr K5 (by exact g1) rfl rfl at265_next (e_local (by exact g4) rfl ⟨_, c_ne _ _, fun hc => ?_, fun hc => ?_⟩)))
            · simp at hc
            · exact t_or0 ⟨rfl, rfl⟩
        · rw [eb] at hb; cases hb
        · subst eH
          refine s_nil (s_nil ⟨g1, g2, g3, g4, ?_⟩)
          rw [if_neg (by omega)]
      · intro ε H' hh
        refine and5 hh fun g1 g2 g3 g4 hq04 => ?_
        clear hh
        subst hq04
        refine s_cons (s_return (e_bool ⟨_, ?_, q⟩))
        rw [if_neg (by decide)]
        refine M.subPut ?_ τ
        refine Sub.trans ?_ (Sub.fresh hrH)
        refine Sub.trans ?_ (Sub.fresh (by rw [put_ne hnz, put_ne hny]; exact hnmH))
        exact (Sub.fresh hyH).trans (Sub.fresh (by rw [put_ne hzy]; exact hzH))
end
end Mine
set_option Elab.async false
set_option linter.unusedVariables false
set_option maxRecDepth 100000
namespace Mine
open PySem PySem.W PySem.Calls PySem.Spec PyProof.Rows
/-- what is known of a variable -/
structure Inf where
  kind : Str
  slot : Int
  first : Str
  uns : Bool
  lg : Int
  cnt : Int
  fc : Int
  lc : Int
structure Ent where
  k : Nat
  a : Addr
  dx : Addr
  inf : Inf
noncomputable def Ent.fs (e : Ent) : List (Str × AV) := [("var", .int e.k), ("kind", .str e.inf.kind), ("slot", .int e.inf.slot), ("first", .str e.inf.first), ("unsafe", .bool e.inf.uns), ("last_goal", .int e.inf.lg), ("count", .int e.inf.cnt), ("first_chunk", .int e.inf.fc), ("last_chunk", .int e.inf.lc)]
noncomputable def dictOfE (I : List Ent) : List (Int × AV) := I.map fun e => ((e.k : Int), .ref e.a)
/-- the table of a survey, beside a ground -/
structure WI (H₀ : Hp) (d : Addr) (I : List Ent) (H : Hp) : Prop where
  sub : Sub H₀ H
  d0 : H₀ d = none
  dm : d ≠ sysModules
  dict : H d = some (.dict (dictOfE I))
  ent : ∀ e ∈ I, H e.a = some (.inst 319 e.dx) ∧ H e.dx = some (.ns e.fs) ∧ H₀ e.dx = none ∧ H₀ e.a = none ∧ e.k < 5
  nk : (I.map (·.k)).Nodup
  nd : (I.map (·.dx)).Nodup
theorem kvGet_dict {I : List Ent} (hn : (I.map (·.k)).Nodup) {e : Ent} (he : e ∈ I) : kvGet (e.k : Int) (dictOfE I) = some (.ref e.a) := by
  induction I with
  | nil => cases he
  | cons x r ih =>
    rw [List.map_cons, List.nodup_cons] at hn
    unfold dictOfE
    rw [List.map_cons]
    unfold kvGet
    dsimp only
    rcases List.mem_cons.mp he with rfl | he
    · rw [if_pos rfl]
    · have : ¬ ((x.k : Int) = (e.k : Int)) := fun h => hn.1 (by
        have : x.k = e.k := by omega
        rw [this]; exact List.mem_map.mpr ⟨e, he, rfl⟩)
      rw [if_neg this]
      exact ih hn.2 he
theorem kvGet_no {I : List Ent} {k : Nat} (h : ∀ e ∈ I, e.k ≠ k) : kvGet (k : Int) (dictOfE I) = none := by
  induction I with
  | nil => rfl
  | cons x r ih =>
    unfold dictOfE
    rw [List.map_cons]
    unfold kvGet
    dsimp only
    rw [if_neg (fun e => h x (.head _) (by omega))]
    exact ih fun e he => h e (.tail _ he)
theorem kvPut_new {I : List Ent} {k : Nat} (v : AV) (h : ∀ e ∈ I, e.k ≠ k) : kvPut (k : Int) v (dictOfE I) = dictOfE I ++ [((k : Int), v)] := by
  induction I with
  | nil => rfl
  | cons x r ih =>
    unfold dictOfE
    rw [List.map_cons]
    unfold kvPut
    dsimp only
    rw [if_neg (fun e => h x (.head _) (by omega))]
    have := ih fun e he => h e (.tail _ he)
    unfold dictOfE at this
    rw [this]; rfl
/-- one entry is turned -/
noncomputable def setE (I : List Ent) (k : Nat) (g : Inf → Inf) : List Ent := I.map fun e => if e.k = k then { e with inf := g e.inf } else e
theorem setE_k (I : List Ent) (k : Nat) (g : Inf → Inf) : (setE I k g).map (·.k) = I.map (·.k) := by
  unfold setE; rw [List.map_map]; congr 1; funext e; simp only [Function.comp]; split <;> rfl
theorem setE_dx (I : List Ent) (k : Nat) (g : Inf → Inf) : (setE I k g).map (·.dx) = I.map (·.dx) := by
  unfold setE; rw [List.map_map]; congr 1; funext e; simp only [Function.comp]; split <;> rfl
theorem setE_dict (I : List Ent) (k : Nat) (g : Inf → Inf) : dictOfE (setE I k g) = dictOfE I := by
  unfold dictOfE setE; rw [List.map_map]; congr 1; funext e; simp only [Function.comp]; split <;> rfl
theorem setE_mem {I : List Ent} {k : Nat} {g : Inf → Inf} {e : Ent} (h : e ∈ setE I k g) : ∃ x ∈ I, e = if x.k = k then { x with inf := g x.inf } else x := by
  unfold setE at h
  obtain ⟨x, hx, rfl⟩ := List.mem_map.mp h
  exact ⟨x, hx, rfl⟩
theorem nd_inj {I : List Ent} (h : (I.map (·.dx)).Nodup) {x y : Ent} (hx : x ∈ I) (hy : y ∈ I) (e : x.dx = y.dx) : x = y := by
  induction I with
  | nil => cases hx
  | cons z r ih =>
    rw [List.map_cons, List.nodup_cons] at h
    rcases List.mem_cons.mp hx with hx' | hx'
    · rcases List.mem_cons.mp hy with hy' | hy'
      · rw [hx', hy']
      · exact absurd (List.mem_map.mpr ⟨y, hy', by rw [← hx']; exact e.symm⟩) h.1
    · rcases List.mem_cons.mp hy with hy' | hy'
      · exact absurd (List.mem_map.mpr ⟨x, hx', by rw [← hy']; exact e⟩) h.1
      · exact ih h.2 hx' hy'
theorem nk_inj {I : List Ent} (h : (I.map (·.k)).Nodup) {x y : Ent} (hx : x ∈ I) (hy : y ∈ I) (e : x.k = y.k) : x = y := by
  induction I with
  | nil => cases hx
  | cons z r ih =>
    rw [List.map_cons, List.nodup_cons] at h
    rcases List.mem_cons.mp hx with hx' | hx'
    · rcases List.mem_cons.mp hy with hy' | hy'
      · rw [hx', hy']
      · exact absurd (List.mem_map.mpr ⟨y, hy', by rw [← hx']; exact e.symm⟩) h.1
    · rcases List.mem_cons.mp hy with hy' | hy'
      · exact absurd (List.mem_map.mpr ⟨x, hx', by rw [← hy']; exact e⟩) h.1
      · exact ih h.2 hx' hy'
section
variable {H₀ H : Hp} {d : Addr} {I : List Ent}
theorem WI.len (W : WI H₀ d I H) : I.length ≤ 5 := by
  have := nodup_le (l := I.map (·.k)) (r := [0, 1, 2, 3, 4]) W.nk fun k hk => by
    obtain ⟨e, he, rfl⟩ := List.mem_map.mp hk
    have := (W.ent e he).2.2.2.2
    simp; omega
  simpa using this
theorem WI.ground (W : WI H₀ d I H) {H₁ : Hp} (h : Sub H₁ H₀) : WI H₁ d I H :=
  ⟨h.trans W.sub, h.none W.d0, W.dm, W.dict, fun e he => let ⟨a, b, c, c2, k⟩ := W.ent e he; ⟨a, b, h.none c, h.none c2, k⟩, W.nk, W.nd⟩
theorem WI.fresh (W : WI H₀ d I H) {a : Addr} {o : AO} (h : H a = none) : WI (H₀.put a o) d I (H.put a o) :=
  ⟨put_sub W.sub _ _, by rw [put_ne (fun e => by rw [← e, W.dict] at h; cases h)]; exact W.d0, W.dm, put_old h W.dict, fun e he => by
    obtain ⟨x, y, z, z2, k⟩ := W.ent e he
    exact ⟨put_old h x, put_old h y, by rw [put_ne (fun q => by rw [← q, y] at h; cases h)]; exact z, by rw [put_ne (fun q => by rw [← q, x] at h; cases h)]; exact z2, k⟩, W.nk, W.nd⟩
theorem WI.set (W : WI H₀ d I H) {e : Ent} (he : e ∈ I) (g : Inf → Inf) : WI H₀ d (setE I e.k g) (H.put e.dx (.ns ({ e with inf := g e.inf } : Ent).fs)) := by
  obtain ⟨x, y, z, z2, k⟩ := W.ent e he
  have hd : d ≠ e.dx := fun q => by have := W.dict; rw [q, y] at this; cases this
  refine ⟨sub_put W.sub z, W.d0, W.dm, by rw [setE_dict, put_ne hd]; exact W.dict, fun e' he' => ?_, by rw [setE_k]; exact W.nk, by rw [setE_dx]; exact W.nd⟩
  obtain ⟨u, hu, rfl⟩ := setE_mem he'
  obtain ⟨u1, u2, u3, u4, u5⟩ := W.ent u hu
  have ha : u.a ≠ e.dx := fun q => by rw [q, y] at u1; cases u1
  by_cases hk : u.k = e.k
  · have : u = e := nk_inj W.nk hu he hk
    subst this
    rw [if_pos rfl]
    exact ⟨by rw [put_ne ha]; exact u1, put_get _ _ _, u3, u4, u5⟩
  · rw [if_neg hk]
    have hdx : u.dx ≠ e.dx := fun q => hk (by rw [nd_inj W.nd hu he q])
    exact ⟨by rw [put_ne ha]; exact u1, by rw [put_ne hdx]; exact u2, u3, u4, u5⟩
end
/-- how often a variable was met, at least -/
noncomputable def MetC (I : List Ent) (c : Nat → Nat) : Prop := (∀ e ∈ I, 0 ≤ e.inf.cnt ∧ e.inf.slot = 0) ∧ ∀ j, 1 ≤ c j → ∃ e ∈ I, e.k = j ∧ (c j : Int) ≤ e.inf.cnt
theorem MetC.le {I : List Ent} {c c' : Nat → Nat} (h : MetC I c') (hc : ∀ j, c j ≤ c' j) : MetC I c := ⟨h.1, fun j hj => by
  obtain ⟨e, he, hk, hn⟩ := h.2 j (Nat.le_trans hj (hc j))
  exact ⟨e, he, hk, by have := hc j; omega⟩⟩
section
variable {prog : Program} {w : World} {f : Fm} {ε : En} {H H₀ : Hp}
theorem st319 (x : Str) (h : x ∈ (["var", "kind", "slot", "first", "unsafe", "last_goal", "count", "first_chunk", "last_chunk"] : List Str)) : setOk (KK w) 319 x = true := by
  simp only [List.mem_cons, List.not_mem_nil, or_false] at h
  rcases h with rfl | rfl | rfl | rfl | rfl | rfl | rfl | rfl | rfl <;> kernel_rfl
theorem at319 (x : Str) (h : x ∈ (["var", "kind", "slot", "first", "unsafe", "last_goal", "count", "first_chunk", "last_chunk"] : List Str)) : attrOk (KK w) 319 x = true := by
  simp only [List.mem_cons, List.not_mem_nil, or_false] at h
  rcases h with rfl | rfl | rfl | rfl | rfl | rfl | rfl | rfl | rfl <;> kernel_rfl
theorem occ_ok {t : Tm} {Q : AV → Hp → Prop} (hz : t.size < 1000)
    (q : ∀ d l, H d = none → d ≠ sysModules → (∀ k ∈ t.vars, ∃ c : Int, 1 ≤ c ∧ kvGet (k : Int) l = some (.int c)) → Q (.ref d) (H.put d (.dict l))) : Ct prog w 42 8 [t.enc] H Q := by
  refine Ct.weak (ct_def (fa := 42) (n := 7) rfl ?_ ?_ ?_ ?_ ?_ ?_ ?_ ?_)
  · rfl
  · intro vs h
    rcases vs with _ | ⟨a, _ | _⟩ <;> first | rfl | (simp at h)
  · rfl
  · rfl
  · rfl
  · rfl
  · rfl
  · intro f A g L
    refine s_cons (s_assign rfl (e_dict0 fun d hd hdm => ?_))
    refine s_cons (s_assign rfl (e_list (es_cons (e_local rfl rfl (es_nil ⟨Nat.le_of_ble_eq_true rfl, fun td htd => ?_⟩)))))
    obtain ⟨ntd, htd0⟩ := put_none htd
    refine s_cons (s_while (fun m ε H' => ∃ (stk : List Tm) (l : List (Int × AV)), ssum stk ≤ m ∧ l.length + m < 2000 ∧ ε.get "todo" = some (.ref td) ∧ ε.get "counts" = some (.ref d) ∧
      (∀ (k : Int) c, kvGet k l = some c → ∃ i : Int, 1 ≤ i ∧ c = .int i) ∧ (∀ k : Nat, k ∈ t.vars → (kvGet (k : Int) l).isSome = true ∨ k ∈ avars stk) ∧
      H' = (H.put d (.dict l)).put td (.list (stk.reverse.map Tm.enc))) t.size
      ⟨[t], [], by simp [ssum], by simp; omega, rfl, rfl, by intro k c h; simp [kvGet] at h, by intro k hk; right; simpa [avars] using hk, rfl⟩ ?_)
    intro m ε H' hh
    refine Exists.elim hh fun stk hh1 => Exists.elim hh1 fun l hh2 => and7 hh2 fun hs hb h1 h2 hk hv hq06 => ?_
    clear hh2 hh1 hh
    subst hq06
    have hlen : stk.length ≤ m := by
      refine Nat.le_trans ?_ hs
      clear hv hs
      induction stk with
      | nil => exact Nat.zero_le _
      | cons p r ih => have := p.size_pos; rw [ssum_cons, List.length_cons]; omega
    have G1 : ∀ o1 o3, ((H.put d o1).put td o3) td = some o3 := fun _ _ => put_get _ _ _
    have G3 : ∀ o1 o3, ((H.put d o1).put td o3) d = some o1 := fun _ _ => by rw [put_ne ntd.symm, put_get]
    have P1 : ∀ o1 o3 o, ((H.put d o1).put td o3).put td o = (H.put d o1).put td o := fun _ _ _ => put_put _ _ _ _
    have P3 : ∀ o1 o3 o, ((H.put d o1).put td o3).put d o = (H.put d o).put td o3 := fun _ _ _ => by rw [put_comm ntd, put_put]
    refine t_val (e_local h1 rfl (.inr ⟨td, _, rfl, G1 _ _, by simp; omega, fun hc => ?_, fun hc => ?_⟩))
    · rcases stk with _ | ⟨u, stk⟩
      · simp at hc
      rw [ssum_cons] at hs
      have hup := u.size_pos
      obtain ⟨m, rfl⟩ : ∃ k, m = k + 1 := ⟨m - 1, by omega⟩
      have e3 : (u :: stk).reverse.map Tm.enc = stk.reverse.map Tm.enc ++ [u.enc] := by rw [List.reverse_cons, List.map_append]; rfl
      rw [e3]
      refine s_cons (s_assign rfl (e_methB0 (e_local h1 rfl ⟨td, _, rfl, mb_pop (G1 _ _), cv_pop (G1 _ _) (by simp at hlen ⊢; omega) ?_⟩)))
      rw [P1, Tm.enc_eq]
      refine s_cons (s_if (t_cmp (Nat.le_of_ble_eq_true rfl) (e_tm rfl rfl u.body0 rfl (e_str ⟨_, c_seq _ _, fun hc => ?_, fun hc => ?_⟩))))
      · rw [Tm.tag_v] at hc
        have hvv := vars_v hc
        obtain ⟨i, hi0, hi⟩ : ∃ i : Int, 0 ≤ i ∧ (kvGet u.snd l).getD (.int 0) = .int i := by
          cases q0 : kvGet u.snd l with
          | none => exact ⟨0, by decide, rfl⟩
          | some c => obtain ⟨i, h1, rfl⟩ := hk _ _ q0; exact ⟨i, by omega, rfl⟩
        refine s_cons (s_setItemD (e_add (e_methB (e_local (by exact h2) rfl ⟨d, _, rfl, mb_get (G3 _ _), es_cons (e_tm rfl rfl u.body1 rfl (es_cons (e_int (es_nil (cv_get (G3 _ _) hdm (e_int ⟨i, 1, hi, rfl, e_local (by exact h2) rfl (e_tm rfl rfl u.body1 rfl ⟨d, l, u.snd, rfl, G3 _ _, rfl, by omega, ?_⟩)⟩))))))⟩))))
        rw [P3]
        refine s_nil (s_nil ⟨m, Nat.lt_succ_self _, stk, kvPut u.snd (.int (i + 1)) l, by omega, by have := kvPut_len u.snd (.int (i + 1)) l; omega, h1, h2, ?_, ?_, rfl⟩)
        · intro k c hkc
          rw [kvPut_get] at hkc
          by_cases h : k = u.snd
          · rw [if_pos h] at hkc; cases hkc; exact ⟨i + 1, by omega, rfl⟩
          · rw [if_neg h] at hkc; exact hk k c hkc
        · intro k hkv
          rw [kvPut_get]
          by_cases h : (k : Int) = u.snd
          · left; rw [if_pos h]; rfl
          · rw [if_neg h]
            rcases hv k hkv with h3 | h3
            · exact .inl h3
            · right
              rw [avars_cons, hvv] at h3
              rcases List.mem_append.mp h3 with h4 | h4
              · rw [List.mem_singleton.mp h4, ← Tm.snd_var hc] at h; exact absurd rfl h
              · exact h4
      · rw [Tm.tag_v] at hc
        refine s_cons (s_if (t_cmp (Nat.le_of_ble_eq_true rfl) (e_tm rfl rfl u.body0 rfl (e_str ⟨_, c_seq _ _, fun hc2 => ?_, fun hc2 => ?_⟩))))
        · rw [Tm.tag_s] at hc2
          have hsz := Tm.size_args hc2
          have hal := u.args_len
          refine s_cons (s_expr (e_methB (e_local (by exact h1) rfl ⟨td, _, rfl, mb_extend (G1 _ _), es_cons (e_callT (by kernel_rfl) rfl (by decide) rfl (es_cons (e_tm rfl rfl (Tm.body2 hc2) rfl (es_nil (rv_of_tup (by simp; omega) fun ri hri => es_nil ?_))))) ⟩)))
          refine cv_extendR (H₀ := (H.put d (.dict l)).put td (.list (stk.reverse.map Tm.enc))) (put_get _ _ _) hri (Sub.fresh hri) (G1 _ _) (by simp at hlen ⊢; omega) ⟨rfl, ?_⟩
          rw [P1]
          refine s_nil (s_nil (s_nil ⟨m, Nat.lt_succ_self _, u.args ++ stk, l, by rw [ssum_append]; omega, by omega, h1, h2, hk, ?_, ?_⟩))
          · intro k hkv
            rcases hv k hkv with h | h
            · exact .inl h
            · right; rw [avars_append, avars_args hc2, ← avars_cons]; exact h
          · rw [List.reverse_append, List.map_append, List.map_reverse (l := u.args)]
        · rw [Tm.tag_s] at hc2
          refine s_nil (s_nil (s_nil ⟨m, Nat.lt_succ_self _, stk, l, by omega, by omega, h1, h2, hk, ?_, rfl⟩))
          intro k hkv
          rcases hv k hkv with h | h
          · exact .inl h
          · right; rw [avars_cons, vars_c hc hc2] at h; exact h
    · have : stk = [] := by
        cases stk with
        | nil => rfl
        | cons p r => simp at hc
      subst this
      refine s_cons (s_return (e_local h2 rfl ⟨_, ?_, q d l hd hdm fun k hkv => ?_⟩))
      · exact Sub.fresh (by rw [put_ne ntd]; exact htd0)
      · rcases hv k hkv with h | h
        · obtain ⟨c, hc'⟩ := Option.isSome_iff_exists.mp h
          obtain ⟨i, hi, rfl⟩ := hk _ _ hc'
          exact ⟨i, hi, hc'⟩
        · cases h
end
end Mine
set_option Elab.async false
set_option linter.unusedVariables false
set_option maxRecDepth 100000
namespace Mine
open PySem PySem.W PySem.Calls PySem.Spec PyProof.Rows
noncomputable def bump (c : Nat → Nat) (k : Nat) : Nat → Nat := fun j => if j = k then c j + 1 else c j
theorem mem_setE {I : List Ent} {e : Ent} (g : Inf → Inf) (h : e ∈ I) : ({ e with inf := g e.inf } : Ent) ∈ setE I e.k g := by
  unfold setE
  exact List.mem_map.mpr ⟨e, h, by rw [if_pos rfl]⟩
theorem mem_setE' {I : List Ent} {u : Ent} (k : Nat) (g : Inf → Inf) (h : u ∈ I) : (if u.k = k then { u with inf := g u.inf } else u) ∈ setE I k g := List.mem_map.mpr ⟨u, h, rfl⟩
theorem MetC.set {I : List Ent} {c : Nat → Nat} (h : MetC I c) (k : Nat) {g : Inf → Inf} (hg : ∀ i, (g i).cnt = i.cnt ∧ (g i).slot = i.slot) : MetC (setE I k g) c := by
  refine ⟨fun e he => ?_, fun j hj => ?_⟩
  · obtain ⟨x, hx, rfl⟩ := setE_mem he
    have := h.1 x hx
    split
    · dsimp only; rw [(hg _).1, (hg _).2]; exact this
    · exact this
  · obtain ⟨e, he, h1, h2⟩ := h.2 j hj
    refine ⟨_, mem_setE' k g he, ?_, ?_⟩
    · split <;> exact h1
    · split
      · dsimp only; rw [(hg _).1]; exact h2
      · exact h2
theorem MetC.count {I : List Ent} {c : Nat → Nat} (h : MetC I c) {e : Ent} (he : e ∈ I) (hn : (I.map (·.k)).Nodup) {n : Int} (h1 : 1 ≤ n) : MetC (setE I e.k fun i => { i with cnt := i.cnt + n }) (bump c e.k) := by
  refine ⟨fun u hu => ?_, fun j hj => ?_⟩
  · obtain ⟨x, hx, rfl⟩ := setE_mem hu
    have := h.1 x hx
    split
    · exact ⟨by dsimp only; omega, this.2⟩
    · exact this
  · by_cases hk : j = e.k
    · subst hk
      refine ⟨_, mem_setE' e.k _ he, by rw [if_pos rfl], ?_⟩
      rw [if_pos rfl]
      unfold bump
      rw [if_pos rfl]
      dsimp only
      by_cases hc : 1 ≤ c e.k
      · obtain ⟨u, hu, h2, h3⟩ := h.2 _ hc
        have : u = e := nk_inj hn hu he h2
        subst this
        omega
      · have := (h.1 e he).1
        omega
    · unfold bump at hj ⊢
      rw [if_neg hk] at hj ⊢
      obtain ⟨u, hu, h2, h3⟩ := h.2 j hj
      refine ⟨_, mem_setE' e.k _ hu, ?_, ?_⟩
      · split <;> exact h2
      · rw [if_neg (fun q => hk (h2.symm.trans q))]; exact h3
section
variable {prog : Program} {w : World} {f : Fm} {ε : En} {H H₀ : Hp}
theorem mk319 : makesIn (KK w) 319 = true := by kernel_rfl
theorem in319 : findIn (KK w) (.ref 319) "__init__" = some (some (.ref 316)) := by kernel_rfl
theorem fn316 : isFn (KK w) (.ref 316) = true := by kernel_rfl
theorem at417_infos : attrOk (KK w) 417 "infos" = true := by kernel_rfl
theorem st417_infos : setOk (KK w) 417 "infos" = true := by kernel_rfl
theorem me_meet : methOk (KK w) 417 "meet" 407 = true := by kernel_rfl
theorem me_terms : methOk (KK w) 417 "terms" 414 = true := by kernel_rfl
theorem mk417 : makesIn (KK w) 417 = true := by kernel_rfl
theorem in417 : findIn (KK w) (.ref 417) "__init__" = some (some (.ref 400)) := by kernel_rfl
theorem fn400 : isFn (KK w) (.ref 400) = true := by kernel_rfl
noncomputable def inf0 (first : Str) : Inf := ⟨"temp", 0, first, false, -1, 0, 0, 0⟩
theorem vi_ok {x dx : Addr} {k : Nat} {first : Str} {Q : AV → Hp → Prop} (hx : H x = none) (hdx : H dx = none) (hne : x ≠ dx) (q : Q .none ((H.put x (.inst 319 dx)).put dx (.ns (⟨k, x, dx, inf0 first⟩ : Ent).fs))) :
    Ct prog w 316 1 [.ref x, .int k, .str first] ((H.put dx (.ns [])).put x (.inst 319 dx)) Q := by
  refine ct_def (fa := 316) (n := 0) rfl ?_ ?_ ?_ ?_ ?_ ?_ ?_ ?_
  · rfl
  · intro vs h
    rcases vs with _ | ⟨a, _ | ⟨b, _ | ⟨c, _ | _⟩⟩⟩ <;> first | rfl | (simp at h)
  · rfl
  · rfl
  · rfl
  · rfl
  · rfl
  · intro f A g L
    rw [put_comm hne.symm]
    generalize hH1 : H.put x (.inst 319 dx) = H1 at *
    have g1 : ∀ fs, (H1.put dx (.ns fs)) x = some (.inst 319 dx) := fun fs => by rw [put_ne hne, ← hH1, put_get]
    refine s_cons (s_field (C := 319) (dx := dx) (a := x) (fs := []) rfl rfl (st319 _ (by simp)) (by exact Nat.le_of_ble_eq_true rfl) (e_local rfl rfl ⟨g1 _, put_get _ _ _, ?_⟩))
    rw [put_put]
    refine s_cons (s_field (C := 319) (dx := dx) (a := x) (fs := [("var", .int k)]) rfl rfl (st319 _ (by simp)) (by exact Nat.le_of_ble_eq_true rfl) (e_str ⟨g1 _, put_get _ _ _, ?_⟩))
    rw [put_put]
    refine s_cons (s_field (C := 319) (dx := dx) (a := x) (fs := [("var", .int k), ("kind", .str "temp")]) rfl rfl (st319 _ (by simp)) (by exact Nat.le_of_ble_eq_true rfl) (e_int ⟨g1 _, put_get _ _ _, ?_⟩))
    rw [put_put]
    refine s_cons (s_field (C := 319) (dx := dx) (a := x) (fs := [("var", .int k), ("kind", .str "temp"), ("slot", .int 0)]) rfl rfl (st319 _ (by simp)) (by exact Nat.le_of_ble_eq_true rfl) (e_local rfl rfl ⟨g1 _, put_get _ _ _, ?_⟩))
    rw [put_put]
    refine s_cons (s_field (C := 319) (dx := dx) (a := x) (fs := [("var", .int k), ("kind", .str "temp"), ("slot", .int 0), ("first", .str first)]) rfl rfl (st319 _ (by simp)) (by exact Nat.le_of_ble_eq_true rfl) (e_bool ⟨g1 _, put_get _ _ _, ?_⟩))
    rw [put_put]
    refine s_cons (s_field (C := 319) (dx := dx) (a := x) (fs := [("var", .int k), ("kind", .str "temp"), ("slot", .int 0), ("first", .str first), ("unsafe", .bool false)]) rfl rfl (st319 _ (by simp)) (by exact Nat.le_of_ble_eq_true rfl) (e_neg (e_int ⟨1, rfl, g1 _, put_get _ _ _, ?_⟩)))
    rw [put_put]
    refine s_cons (s_field (C := 319) (dx := dx) (a := x) (fs := [("var", .int k), ("kind", .str "temp"), ("slot", .int 0), ("first", .str first), ("unsafe", .bool false), ("last_goal", .int (-1))]) rfl rfl (st319 _ (by simp)) (by exact Nat.le_of_ble_eq_true rfl) (e_int ⟨g1 _, put_get _ _ _, ?_⟩))
    rw [put_put]
    refine s_cons (s_field (C := 319) (dx := dx) (a := x) (fs := [("var", .int k), ("kind", .str "temp"), ("slot", .int 0), ("first", .str first), ("unsafe", .bool false), ("last_goal", .int (-1)), ("count", .int 0)]) rfl rfl (st319 _ (by simp)) (by exact Nat.le_of_ble_eq_true rfl) (e_int ⟨g1 _, put_get _ _ _, ?_⟩))
    rw [put_put]
    refine s_cons (s_field (C := 319) (dx := dx) (a := x) (fs := [("var", .int k), ("kind", .str "temp"), ("slot", .int 0), ("first", .str first), ("unsafe", .bool false), ("last_goal", .int (-1)), ("count", .int 0), ("first_chunk", .int 0)]) rfl rfl (st319 _ (by simp)) (by exact Nat.le_of_ble_eq_true rfl) (e_int ⟨g1 _, put_get _ _ _, ?_⟩))
    rw [put_put]
    exact s_nil q
set_option maxHeartbeats 1000000 in
theorem meet_ok {sv sdx d : Addr} {I : List Ent} {c : Nat → Nat} {k : Nat} {first : Str} {goal chunk n : Int} {Q : AV → Hp → Prop} (W : WI H₀ d I H) (hC : MetC I c) (hs1 : H₀ sv = some (.inst 417 sdx)) (hs2 : H₀ sdx = some (.ns [("infos", .ref d)])) (hk : k < 5) (hn : 1 ≤ n)
    (q : ∀ H' I', WI H₀ d I' H' → MetC I' (bump c k) → Q .none H') : Ct prog w 407 9 [.ref sv, .int k, .str first, .int goal, .int chunk, .int n] H Q := by
  refine ct_def (fa := 407) (n := 8) rfl ?_ ?_ ?_ ?_ ?_ ?_ ?_ ?_
  · rfl
  · intro vs h
    rcases vs with _ | ⟨a, _ | ⟨b, _ | ⟨c, _ | ⟨d, _ | ⟨e, _ | ⟨f, _ | _⟩⟩⟩⟩⟩⟩ <;> first | rfl | (simp at h)
  · rfl
  · rfl
  · rfl
  · rfl
  · rfl
  · intro f A g L
    refine s_cons (S1.mono (Q := fun fv ε₁ H₁ => fv = .next ∧ ε₁ = ([(("count" : Str), AV.int n), (("chunk" : Str), AV.int chunk), (("goal" : Str), AV.int goal), (("first" : Str), AV.str first), (("k" : Str), AV.int k), (("self" : Str), AV.ref sv)] : En) ∧ ∃ I', WI H₀ d I' H₁ ∧ MetC I' c ∧ ∃ e ∈ I', e.k = k)
      (s_if (t_cmp (Nat.le_of_ble_eq_true rfl) (e_local rfl rfl (e_attr (e_local rfl rfl ⟨sv, 417, sdx, _, _, rfl, W.sub _ _ hs1, W.sub _ _ hs2, at417_infos, rfl, _, c_notInD _ W.dict W.dm, fun hc => ?_, fun hc => ?_⟩))))) fun fv ε₁ H₁ ⟨e1, e2, I', W', hC', e, he, hek⟩ => ?_)
    · -- a new one
      have hno : ∀ e ∈ I, e.k ≠ k := fun e he hek => by
        have := kvGet_dict W.nk he
        rw [hek] at this
        rw [this] at hc; cases hc
      refine s_cons (s_setItemD (e_call (fa := .ref 319) (by kernel_rfl) (by kernel_rfl) rfl (es_cons (e_local rfl rfl (es_cons (e_local rfl rfl (es_nil ?_)))))))
      refine cv_make (n := 1) mk319 in319 fn316 (Nat.le_of_ble_eq_true rfl) fun x dx hx hdx hne => vi_ok hx hdx hne ⟨rfl, ?_⟩
      have W1 : ∀ o p, (H.put x o).put dx p d = some (.dict (dictOfE I)) := fun o p => by
        rw [put_ne (fun e => by have := W.dict; rw [e, hdx] at this; cases this), put_old hx W.dict]
      have up : ∀ {o p}, Sub H ((H.put x o).put dx p) := (Sub.fresh hx).trans (sub_put (Sub.refl _) (by rw [put_ne hne.symm]; exact hdx))
      refine e_attr (e_local rfl rfl ⟨sv, 417, sdx, _, _, rfl, up _ _ (W.sub _ _ hs1), up _ _ (W.sub _ _ hs2), at417_infos, rfl, e_local rfl rfl ⟨d, dictOfE I, k, rfl, W1 _ _, rfl, ?_, ?_⟩⟩)
      · have := W.len; unfold dictOfE; rw [List.length_map]; omega
      rw [kvPut_new _ hno]
      have e0 : dictOfE I ++ [((k : Int), AV.ref x)] = dictOfE (I ++ [⟨k, x, dx, inf0 first⟩]) := by unfold dictOfE; rw [List.map_append]; rfl
      rw [e0]
      have hdx' : d ≠ dx := fun e => by have := W.dict; rw [e, hdx] at this; cases this
      have hdxx : d ≠ x := fun e => by have := W.dict; rw [e, hx] at this; cases this
      have W2 : WI H₀ d (I ++ [⟨k, x, dx, inf0 first⟩]) (((H.put x (.inst 319 dx)).put dx (.ns (⟨k, x, dx, inf0 first⟩ : Ent).fs)).put d (.dict (dictOfE (I ++ [⟨k, x, dx, inf0 first⟩])))) := by
        refine ⟨sub_put (W.sub.trans up) W.d0, W.d0, W.dm, put_get _ _ _, fun e he => ?_, ?_, ?_⟩
        · rcases List.mem_append.mp he with h | h
          · obtain ⟨a1, a2, a3, a4, a5⟩ := W.ent e h
            exact ⟨by rw [put_ne (fun z => by have := W.dict; rw [← z, a1] at this; cases this)]; exact up _ _ a1, by rw [put_ne (fun z => by have := W.dict; rw [← z, a2] at this; cases this)]; exact up _ _ a2, a3, a4, a5⟩
          · rw [List.mem_singleton.mp h]
            exact ⟨by show ((((H.put x _).put dx _).put d _) x = _); rw [put_ne hdxx.symm, put_ne hne, put_get], by show ((((H.put x _).put dx _).put d _) dx = _); rw [put_ne hdx'.symm, put_get], W.sub.none hdx, W.sub.none hx, hk⟩
        · rw [List.map_append, List.nodup_append]
          refine ⟨W.nk, by simp, fun a ha b hb => ?_⟩
          obtain ⟨e, he, rfl⟩ := List.mem_map.mp ha
          have : b = k := by simpa using hb
          rw [this]; exact hno e he
        · rw [List.map_append, List.nodup_append]
          refine ⟨W.nd, by simp, fun a ha b hb => ?_⟩
          obtain ⟨e, he, rfl⟩ := List.mem_map.mp ha
          have : b = dx := by simpa using hb
          rw [this]
          intro z
          have := (W.ent e he).2.1
          rw [z, hdx] at this; cases this
      have C2 : MetC (I ++ [⟨k, x, dx, inf0 first⟩]) c := by
        refine ⟨fun e he => ?_, fun j hj => ?_⟩
        · rcases List.mem_append.mp he with h | h
          · exact hC.1 e h
          · rw [List.mem_singleton.mp h]; exact ⟨Int.le_refl 0, rfl⟩
        · obtain ⟨e, he, h1, h2⟩ := hC.2 j hj
          exact ⟨e, List.mem_append_left _ he, h1, h2⟩
      have hmem : (⟨k, x, dx, inf0 first⟩ : Ent) ∈ I ++ [⟨k, x, dx, inf0 first⟩] := List.mem_append_right _ (.head _)
      generalize (I ++ [⟨k, x, dx, inf0 first⟩]) = I2 at *
      generalize (((H.put x (.inst 319 dx)).put dx (.ns (⟨k, x, dx, inf0 first⟩ : Ent).fs)).put d (.dict (dictOfE I2))) = H2 at *
      obtain ⟨a1, a2, a3, a4, a5⟩ := W2.ent _ hmem
      refine s_cons (s_setAttr (e_local rfl rfl (e_itemD (e_attr (e_local rfl rfl ⟨sv, 417, sdx, _, _, rfl, W2.sub _ _ hs1, W2.sub _ _ hs2, at417_infos, rfl, e_local rfl rfl ⟨d, k, dictOfE I2, .ref x, rfl, rfl, W2.dict, kvGet_dict W2.nk hmem, x, 319, dx, _, rfl, a1, a2, Nat.le_of_ble_eq_true rfl, st319 _ (by simp), ?_⟩⟩)))))
      have W3 := W2.set hmem (fun i => { i with fc := chunk })
      exact s_nil ⟨rfl, rfl, _, W3, C2.set _ (fun i => ⟨rfl, rfl⟩), _, mem_setE _ hmem, rfl⟩
    · refine s_nil ⟨rfl, rfl, I, W, hC, ?_⟩
      by_cases hex : ∃ e ∈ I, e.k = k
      · exact hex
      · have : kvGet (k : Int) (dictOfE I) = none := kvGet_no fun e he h => hex ⟨e, he, h⟩
        rw [this] at hc; cases hc
    · subst e1 e2
      subst hek
      obtain ⟨a1, a2, a3, a4, a5⟩ := W'.ent _ he
      refine s_cons (s_assign rfl (e_itemD (e_attr (e_local rfl rfl ⟨sv, 417, sdx, _, _, rfl, W'.sub _ _ hs1, W'.sub _ _ hs2, at417_infos, rfl, e_local rfl rfl ⟨d, e.k, dictOfE I', .ref e.a, rfl, rfl, W'.dict, kvGet_dict W'.nk he, ?_⟩⟩))))
      refine s_cons (s_augAttr (e_local rfl rfl ⟨e.a, 319, e.dx, e.fs, e.inf.cnt, rfl, a1, a2, Nat.le_of_ble_eq_true rfl, st319 _ (by simp), at319 _ (by simp), rfl, e_local rfl rfl ⟨n, rfl, a1, a2, ?_⟩⟩))
      have W1 := W'.set he (fun i => { i with cnt := i.cnt + n })
      have C1 := hC'.count he W'.nk hn
      have m1 := mem_setE (fun i => { i with cnt := i.cnt + n }) he
      have k1 : ({ e with inf := { e.inf with cnt := e.inf.cnt + n } } : Ent).k = e.k := rfl
      have ef : nsPutL "count" (.int (e.inf.cnt + n)) e.fs = ({ e with inf := { e.inf with cnt := e.inf.cnt + n } } : Ent).fs := rfl
      rw [ef]
      have ee : ({ e with inf := { e.inf with cnt := e.inf.cnt + n } } : Ent).dx = e.dx ∧ ({ e with inf := { e.inf with cnt := e.inf.cnt + n } } : Ent).a = e.a := ⟨rfl, rfl⟩
      generalize ({ e with inf := { e.inf with cnt := e.inf.cnt + n } } : Ent) = e1 at *
      generalize (setE I' e.k fun i => { i with cnt := i.cnt + n }) = I1 at *
      rw [← ee.1] at W1 ⊢
      rw [← ee.2]
      generalize H₁.put e1.dx (.ns e1.fs) = H1 at *
      obtain ⟨b1, b2, b3, b4, b5⟩ := W1.ent _ m1
      refine s_cons (s_setAttr (e_local rfl rfl (e_local rfl rfl ⟨e1.a, 319, e1.dx, e1.fs, rfl, b1, b2, Nat.le_of_ble_eq_true rfl, st319 _ (by simp), ?_⟩)))
      have W2 := W1.set m1 (fun i => { i with lg := goal })
      have C2 := C1.set e1.k (g := fun i => { i with lg := goal }) (fun i => ⟨rfl, rfl⟩)
      have m2 := mem_setE (fun i => { i with lg := goal }) m1
      have ef2 : nsPutL "last_goal" (.int goal) e1.fs = ({ e1 with inf := { e1.inf with lg := goal } } : Ent).fs := rfl
      rw [ef2]
      have ee2 : ({ e1 with inf := { e1.inf with lg := goal } } : Ent).dx = e1.dx ∧ ({ e1 with inf := { e1.inf with lg := goal } } : Ent).a = e1.a := ⟨rfl, rfl⟩
      generalize ({ e1 with inf := { e1.inf with lg := goal } } : Ent) = e2 at *
      generalize (setE I1 e1.k fun i => { i with lg := goal }) = I2 at *
      rw [← ee2.1] at W2 ⊢
      rw [← ee2.2]
      generalize H1.put e2.dx (.ns e2.fs) = H2 at *
      obtain ⟨d1, d2, d3, d4, d5⟩ := W2.ent _ m2
      refine s_cons (s_setAttr (e_local rfl rfl (e_local rfl rfl ⟨e2.a, 319, e2.dx, e2.fs, rfl, d1, d2, Nat.le_of_ble_eq_true rfl, st319 _ (by simp), ?_⟩)))
      have W3 := W2.set m2 (fun i => { i with lc := chunk })
      have C3 := C2.set e2.k (g := fun i => { i with lc := chunk }) (fun i => ⟨rfl, rfl⟩)
      exact s_nil (q _ _ W3 C3)
end
end Mine
set_option Elab.async false
set_option linter.unusedVariables false
set_option maxRecDepth 100000
namespace Mine
open PySem PySem.W PySem.Calls PySem.Spec PyProof.Rows
noncomputable def add1 (c : Nat → Nat) (t : Tm) : Nat → Nat := fun j => c j + if t.vars.contains j then 1 else 0
noncomputable def addT (c : Nat → Nat) (ts : List Tm) : Nat → Nat := ts.foldl add1 c
theorem addT_succ (c : Nat → Nat) {ts : List Tm} {i : Nat} (h : i < ts.length) : addT c (ts.take (i + 1)) = add1 (addT c (ts.take i)) ts[i] := by
  unfold addT
  rw [take_succ_get h, List.foldl_append]; rfl
section
variable {prog : Program} {w : World} {f : Fm} {ε : En} {H H₀ : Hp}
theorem len_arg : ("_arg" : Str).length = 4 := by kernel_rfl
theorem len_struct : ("_struct" : Str).length = 7 := by kernel_rfl
set_option maxHeartbeats 2000000 in
theorem terms_ok {sv sdx d : Addr} {I : List Ent} {c : Nat → Nat} {ts : List Tm} {place : Str} {goal chunk : Int} {Q : AV → Hp → Prop} (W : WI H₀ d I H) (hC : MetC I c) (hs1 : H₀ sv = some (.inst 417 sdx)) (hs2 : H₀ sdx = some (.ns [("infos", .ref d)]))
    (hl : ∀ t ∈ ts, t.low ∧ t.size < 100) (hp : place.length ≤ 100) (q : ∀ H' I', WI H₀ d I' H' → MetC I' (addT c ts) → Q .none H') : Ct prog w 414 11 [.ref sv, .tup (ts.map Tm.enc), .str place, .int goal, .int chunk] H Q := by
  refine ct_def (fa := 414) (n := 10) rfl ?_ ?_ ?_ ?_ ?_ ?_ ?_ ?_
  · rfl
  · intro vs h
    rcases vs with _ | ⟨a, _ | ⟨b, _ | ⟨c, _ | ⟨d, _ | ⟨e, _ | _⟩⟩⟩⟩⟩ <;> first | rfl | (simp at h)
  · rfl
  · rfl
  · rfl
  · rfl
  · rfl
  · intro f A g L
    refine s_cons (s_forTup rfl (e_local rfl rfl ⟨_, rfl, fun i ε H' => (∃ I', WI H₀ d I' H' ∧ MetC I' (addT c (ts.take i))) ∧ ε.get "self" = some (.ref sv) ∧ ε.get "place" = some (.str place) ∧ ε.get "goal" = some (.int goal) ∧ ε.get "chunk" = some (.int chunk),
      ⟨⟨I, W, hC⟩, rfl, rfl, rfl, rfl⟩, ?_, ?_⟩))
    · rintro i ε H' p hi ⟨⟨I', W', hC'⟩, h1, h2, h3, h4⟩
      have hi' : i < ts.length := by simpa using hi
      rw [getD_map ts hi']
      have es := addT_succ c hi'
      obtain ⟨hlow, hsz⟩ := hl _ (List.getElem_mem hi')
      have fin : ∀ {ε₁ : En} {H₁ : Hp}, (∃ I', WI H₀ d I' H₁ ∧ MetC I' (add1 (addT c (ts.take i)) ts[i])) → ε₁.get "self" = some (.ref sv) ∧ ε₁.get "place" = some (.str place) ∧ ε₁.get "goal" = some (.int goal) ∧ ε₁.get "chunk" = some (.int chunk) →
          (∃ I', WI H₀ d I' H₁ ∧ MetC I' (addT c (ts.take (i + 1)))) ∧ ε₁.get "self" = some (.ref sv) ∧ ε₁.get "place" = some (.str place) ∧ ε₁.get "goal" = some (.int goal) ∧ ε₁.get "chunk" = some (.int chunk) := fun a b => by rw [es]; exact ⟨a, b⟩
      generalize ts[i] = t at *
      generalize addT c (ts.take i) = c1 at *
      rw [Tm.enc_eq]
      refine s_cons (s_if (t_cmp (Nat.le_of_ble_eq_true rfl) (e_tm rfl rfl t.body0 rfl (e_str ⟨_, c_seq _ _, fun hc => ?_, fun hc => ?_⟩))))
      · rw [Tm.tag_v] at hc
        have hk5 : t.var < 5 := hlow _ (by rw [vars_v hc]; exact .head _)
        refine s_cons (s_expr (e_meth (e_local (by exact h1) rfl ⟨sv, 417, sdx, _, 407, rfl, W'.sub _ _ hs1, W'.sub _ _ hs2, me_meet, rfl, es_cons (e_tm rfl rfl t.body1 rfl (es_cons (e_cat (e_local (by exact h2) rfl (e_str ⟨_, _, rfl, rfl, by rw [len_arg]; omega,
          es_cons (e_local (by exact h3) rfl (es_cons (e_local (by exact h4) rfl (es_cons (e_int (es_nil ?_))))))⟩)))))⟩)))
        rw [Tm.snd_var hc]
        refine cv_def (meet_ok W' hC' hs1 hs2 hk5 (Int.le_refl 1) fun H2 I2 W2 C2 => ⟨rfl, ?_⟩) (Nat.le_of_ble_eq_true rfl)
        refine s_nil (s_nil (fin ⟨I2, W2, C2.le fun j => ?_⟩ ⟨h1, h2, h3, h4⟩))
        unfold add1 bump
        rw [vars_v hc]
        by_cases hj : j = t.var
        · simp [hj]
        · simp [hj]
      · refine s_cons (s_assign rfl (e_call (fa := .ref 42) (by kernel_rfl) (by kernel_rfl) rfl (es_cons (e_local rfl rfl (es_nil ?_)))))
        rw [← Tm.enc_eq]
        refine cv_def (occ_ok (by omega) fun d2 l2 hd2 hd2m hocc => ?_) (Nat.le_of_ble_eq_true rfl)
        have W1 := W'.fresh (o := .dict l2) hd2
        have hd20 := W'.sub.none hd2
        refine s_cons (s_forList rfl (e_call (fa := .ref 28) (by kernel_rfl) (by kernel_rfl) rfl (es_cons (e_local rfl rfl (es_nil ?_)))))
        refine cv_def (vars_ok (by omega) fun y ns hy hm hnl => ?_) (Nat.le_of_ble_eq_true rfl)
        have W2 := W1.fresh (o := .list (avi (ns.map fun k : Nat => (k : Int)))) hy
        have hy0 := W1.sub.none hy
        have hyd : y ≠ d2 := (put_none hy0).1
        have hy00 : H₀ y = none := (put_none hy0).2
        have s1 : ∀ a o, H₀ a = some o → ((H₀.put d2 (.dict l2)).put y (.list (avi (ns.map fun k : Nat => (k : Int))))) a = some o := fun a o e => put_old hy0 (put_old hd20 e)
        have gd2 : ((H₀.put d2 (.dict l2)).put y (.list (avi (ns.map fun k : Nat => (k : Int))))) d2 = some (.dict l2) := by rw [put_ne hyd.symm, put_get]
        refine ⟨y, avn ns, rfl, put_get _ _ _, fun i ε H' => (∃ I', WI ((H₀.put d2 (.dict l2)).put y (.list (avn ns))) d I' H' ∧ MetC I' (fun j => c1 j + if (ns.take i).contains j then 1 else 0)) ∧ ε.get "self" = some (.ref sv) ∧ ε.get "place" = some (.str place) ∧ ε.get "goal" = some (.int goal) ∧ ε.get "chunk" = some (.int chunk) ∧ ε.get "counts" = some (.ref d2),
          ⟨⟨I', W2, hC'.le fun j => by simp⟩, h1, h2, h3, h4, rfl⟩, fun i ε H' ⟨⟨I', W', _⟩, _⟩ => W'.sub _ _ (put_get _ _ _), ?_, ?_⟩
        · rintro i2 ε2 H2 p2 hi2 ⟨⟨I2, W3, C3⟩, g1, g2, g3, g4, g5⟩
          rw [avn_len] at hi2
          rw [getD_avn _ hi2]
          have hkm : ns[i2] ∈ t.vars := (hm _).mp (List.getElem_mem hi2)
          obtain ⟨cn, hcn, hkv⟩ := hocc _ hkm
          refine s_cons (s_expr (e_meth (e_local (by exact g1) rfl ⟨sv, 417, sdx, _, 407, rfl, W3.sub _ _ (s1 _ _ hs1), W3.sub _ _ (s1 _ _ hs2), me_meet, rfl, es_cons (e_local rfl rfl (es_cons (e_cat (e_local (by exact g2) rfl (e_str ⟨_, _, rfl, rfl, by rw [len_struct]; omega,
            es_cons (e_local (by exact g3) rfl (es_cons (e_local (by exact g4) rfl (es_cons (e_itemD (e_local (by exact g5) rfl (e_local rfl rfl ⟨d2, _, l2, _, rfl, rfl, W3.sub _ _ gd2, hkv, es_nil ?_⟩)))))))⟩)))))⟩)))
          refine cv_def (meet_ok W3 C3 (s1 _ _ hs1) (s1 _ _ hs2) (hlow _ hkm) hcn fun H4 I4 W4 C4 => ⟨rfl, ?_⟩) (Nat.le_of_ble_eq_true rfl)
          refine s_nil ⟨⟨I4, W4, C4.le fun j => ?_⟩, g1, g2, g3, g4, g5⟩
          unfold bump
          dsimp only
          rw [take_succ_get hi2]
          by_cases hj : j = ns[i2]
          · rw [if_pos hj]
            have h9 : (if (ns.take i2 ++ [ns[i2]]).contains j = true then 1 else 0) ≤ 1 := by split <;> omega
            omega
          · rw [if_neg hj]
            have : (ns.take i2 ++ [ns[i2]]).contains j = (ns.take i2).contains j := by
              rw [Bool.eq_iff_iff]
              simp only [List.contains_iff_mem, List.mem_append, List.mem_singleton]
              exact ⟨fun h => h.resolve_right hj, .inl⟩
            rw [this]
            exact Nat.le_refl _
        · rintro ε2 H2 ⟨⟨I2, W3, C3⟩, g1, g2, g3, g4, g5⟩
          rw [avn_len, List.take_length] at C3
          refine s_nil (s_nil (fin ⟨I2, W3.ground (fun a o e => s1 a o e), C3.le fun j => ?_⟩ ⟨g1, g2, g3, g4⟩))
          unfold add1
          have : ns.contains j = t.vars.contains j := by
            rw [Bool.eq_iff_iff]
            simp only [List.contains_iff_mem]
            exact hm j
          rw [this]
          exact Nat.le_refl _
    · rintro ε H' ⟨⟨I', W', hC'⟩, h1, h2, h3, h4⟩
      rw [List.length_map, List.take_length] at hC'
      exact s_nil (q _ _ W' hC')
end
end Mine
set_option Elab.async false
set_option linter.unusedVariables false
set_option maxRecDepth 100000
namespace Mine
open PySem PySem.W PySem.Calls PySem.Spec PyProof.Rows
inductive Gl where
  | uni (t u : Tm)
  | call (j k : Nat)
noncomputable def Gl.body : Gl → List AV
  | .uni t u => [.str "unify", t.enc, u.enc]
  | .call j k => [.str "call", .int 25, .tup [(Tm.v j).enc, (Tm.v k).enc]]
noncomputable def Gl.enc (g : Gl) : AV := .tup g.body
noncomputable def Gl.tag : Gl → Str
  | .uni _ _ => "unify"
  | .call _ _ => "call"
noncomputable def Gl.ts : Gl → List Tm
  | .uni t u => [t, u]
  | .call j k => [.v j, .v k]
theorem Gl.t_level (g : Gl) : (g.tag == ("level" : Str)) = false := by cases g <;> rfl
theorem Gl.t_mark (g : Gl) : (g.tag == ("mark" : Str)) = false := by cases g <;> rfl
theorem Gl.t_cutto (g : Gl) : (g.tag == ("cutto" : Str)) = false := by cases g <;> rfl
theorem Gl.u_call (t u : Tm) : ((Gl.uni t u).tag == ("call" : Str)) = false := rfl
theorem Gl.u_built (t u : Tm) : ((Gl.uni t u).tag == ("builtin" : Str)) = false := rfl
theorem Gl.u_uni (t u : Tm) : ((Gl.uni t u).tag == ("unify" : Str)) = true := rfl
theorem Gl.c_call (j k : Nat) : ((Gl.call j k).tag == ("call" : Str)) = true := rfl
theorem Gl.body0 (g : Gl) : g.body[0]? = some (.str g.tag) := by cases g <;> rfl
section
variable {prog : Program} {w : World} {f : Fm} {ε : En} {H H₀ : Hp}
theorem special_ok {g : Gl} {Q : AV → Hp → Prop} (q : Q (.int (-1)) H) : Ct prog w 302 7 [g.enc] H Q := by
  refine ct_def (fa := 302) (n := 6) rfl ?_ ?_ ?_ ?_ ?_ ?_ ?_ ?_
  · rfl
  · intro vs h
    rcases vs with _ | ⟨a, _ | _⟩ <;> first | rfl | (simp at h)
  · rfl
  · rfl
  · rfl
  · rfl
  · rfl
  · intro f A gg L
    refine s_cons (s_if (T1.mono (Q := fun b H₁ => b = false ∧ H₁ = H) ?_ fun b H₁ ⟨eb, eH⟩ => ⟨fun hb => ?_, fun hb => ?_⟩))
    · refine t_or (t_cmp (Nat.le_refl 6) (e_tm rfl rfl g.body0 rfl (e_str ⟨_, c_seq _ _, fun hc => ?_, fun hc => ?_⟩)))
      · rw [Gl.t_level] at hc; cases hc
      refine t_or (t_cmp (Nat.le_refl 6) (e_tm rfl rfl g.body0 rfl (e_str ⟨_, c_seq _ _, fun hc => ?_, fun hc => ?_⟩)))
      · rw [Gl.t_mark] at hc; cases hc
      refine t_or (t_cmp (Nat.le_refl 6) (e_tm rfl rfl g.body0 rfl (e_str ⟨_, c_seq _ _, fun hc => ?_, fun hc => ?_⟩)))
      · rw [Gl.t_cutto] at hc; cases hc
      exact t_or0 ⟨rfl, rfl⟩
    · rw [eb] at hb; cases hb
    · subst eH
      exact s_nil (s_cons (s_return (e_neg (e_int ⟨1, rfl, q⟩))))
theorem gterms_ok {g : Gl} {Q : AV → Hp → Prop} (q : Q (.tup (g.ts.map Tm.enc)) H) : Ct prog w 295 7 [g.enc] H Q := by
  refine ct_def (fa := 295) (n := 6) rfl ?_ ?_ ?_ ?_ ?_ ?_ ?_ ?_
  · rfl
  · intro vs h
    rcases vs with _ | ⟨a, _ | _⟩ <;> first | rfl | (simp at h)
  · rfl
  · rfl
  · rfl
  · rfl
  · rfl
  · intro f A gg L
    cases g with
    | uni t u =>
      refine s_cons (s_assign rfl (e_tm rfl rfl (Gl.uni t u).body0 rfl ?_))
      refine s_cons (s_if (T1.mono (Q := fun b H₁ => b = false ∧ H₁ = H) ?_ fun b H₁ ⟨eb, eH⟩ => ⟨fun hb => ?_, fun hb => ?_⟩))
      · refine t_or (t_cmp (Nat.le_refl 6) (e_local rfl rfl (e_str ⟨_, c_seq _ _, fun hc => (by rw [Gl.u_call] at hc; cases hc), fun _ => ?_⟩)))
        refine t_or (t_cmp (Nat.le_refl 6) (e_local rfl rfl (e_str ⟨_, c_seq _ _, fun hc => (by rw [Gl.u_built] at hc; cases hc), fun _ => ?_⟩)))
        exact t_or0 ⟨rfl, rfl⟩
      · rw [eb] at hb; cases hb
      subst eH
      refine s_nil (s_cons (s_if (t_cmp (Nat.le_refl 6) (e_local rfl rfl (e_str ⟨_, c_seq _ _, fun _ => ?_, fun hc => (by rw [Gl.u_uni] at hc; cases hc)⟩)))))
      refine s_cons (s_return (e_tuple (es_cons (e_tm (l := (Gl.uni t u).body) rfl rfl (i := 1) rfl rfl (es_cons (e_tm (l := (Gl.uni t u).body) rfl rfl (i := 2) rfl rfl (es_nil ⟨Nat.le_of_ble_eq_true rfl, ?_⟩)))))))
      exact q
    | call j k =>
      refine s_cons (s_assign rfl (e_tm rfl rfl (Gl.call j k).body0 rfl ?_))
      refine s_cons (s_if (t_or (t_cmp (Nat.le_refl 6) (e_local rfl rfl (e_str ⟨_, c_seq _ _, fun _ => ⟨fun _ => ?_, fun hc => (by cases hc)⟩, fun hc => (by rw [Gl.c_call] at hc; cases hc)⟩)))))
      exact s_cons (s_return (e_tm (l := (Gl.call j k).body) rfl rfl (i := 2) rfl rfl q))
theorem getD_gl (ts : List Gl) {i : Nat} (h : i < ts.length) : (ts.map Gl.enc).getD i .none = (ts[i]).enc := by
  rw [List.getD_eq_getElem?_getD, List.getElem?_map, List.getElem?_eq_getElem h]; rfl
theorem chunks_ok {gs : List Gl} {ga : Addr} {Q : AV → Hp → Prop} (hg : H ga = some (.list (gs.map Gl.enc))) (hl : gs.length < 100) (q : ∀ y (cs : List Int), H y = none → cs.length = gs.length → Q (.ref y) (H.put y (.list (avi cs)))) : Ct prog w 386 7 [.ref ga] H Q := by
  refine ct_def (fa := 386) (n := 6) rfl ?_ ?_ ?_ ?_ ?_ ?_ ?_ ?_
  · rfl
  · intro vs h
    rcases vs with _ | ⟨a, _ | _⟩ <;> first | rfl | (simp at h)
  · rfl
  · rfl
  · rfl
  · rfl
  · rfl
  · intro f A gg L
    refine s_cons (s_assign rfl (e_list (es_nil ⟨Nat.le_of_ble_eq_true rfl, fun y hy => ?_⟩)))
    refine s_cons (s_assign rfl (e_int ?_))
    refine s_cons (s_forList rfl (e_local rfl rfl ⟨ga, _, rfl, put_old hy hg, fun i ε H' => ∃ (cs : List Int) (c : Int), cs.length = i ∧ ε.get "chunks" = some (.ref y) ∧ ε.get "chunk" = some (.int c) ∧ H' = H.put y (.list (avi cs)),
      ⟨[], 0, rfl, rfl, rfl, rfl⟩, fun i ε H' ⟨cs, c, _, _, _, e⟩ => by subst e; exact put_old hy hg, ?_, ?_⟩))
    · intro i ε H' p hi hh
      refine Exists.elim hh fun cs hh1 => Exists.elim hh1 fun c hh2 => and4 hh2 fun hcs h1 h2 hq03 => ?_
      clear hh2 hh1 hh
      subst hq03
      have hi' : i < gs.length := by simpa using hi
      rw [getD_gl gs hi']
      refine s_cons (s_expr (e_methB (e_local (by exact h1) rfl ⟨y, _, rfl, mb_append (put_get _ _ _), es_cons (e_local (by exact h2) rfl (es_nil (cv_append (put_get _ _ _) (by simp [avi]; omega) ⟨rfl, ?_⟩)))⟩)))
      rw [put_put]
      have ea : avi cs ++ [AV.int c] = avi (cs ++ [c]) := by simp [avi]
      rw [ea]
      refine s_cons (s_if (t_cmp (Nat.le_refl 6) (e_tm (by unfold Gl.enc; rfl) rfl (Gl.body0 gs[i]) rfl (e_str ⟨_, c_seq _ _, fun hc => ?_, fun hc => ?_⟩))))
      · refine s_cons (s_augAdd (by exact h2) rfl (e_int ⟨1, rfl, ?_⟩))
        exact s_nil (s_nil ⟨cs ++ [c], c + 1, by simp [hcs], h1, rfl, rfl⟩)
      · exact s_nil (s_nil ⟨cs ++ [c], c, by simp [hcs], h1, h2, rfl⟩)
    · intro ε H' hh
      refine Exists.elim hh fun cs hh1 => Exists.elim hh1 fun c hh2 => and4 hh2 fun hcs h1 h2 hq03 => ?_
      clear hh2 hh1 hh
      subst hq03
      exact s_cons (s_return (e_local h1 rfl (q y cs hy (by simpa using hcs))))
noncomputable def kindOf (i : Inf) : Str := if i.cnt == 1 then "void" else if decide (i.lc > i.fc) then "perm" else "temp"
theorem kind_ok {e : Ent} {Q : AV → Hp → Prop} (h1 : H e.a = some (.inst 319 e.dx)) (h2 : H e.dx = some (.ns e.fs)) (q : Q (.str (kindOf e.inf)) H) : Ct prog w 428 7 [.ref e.a] H Q := by
  refine ct_def (fa := 428) (n := 6) rfl ?_ ?_ ?_ ?_ ?_ ?_ ?_ ?_
  · rfl
  · intro vs h
    rcases vs with _ | ⟨a, _ | _⟩ <;> first | rfl | (simp at h)
  · rfl
  · rfl
  · rfl
  · rfl
  · rfl
  · intro f A gg L
    unfold kindOf at q
    refine s_cons (s_if (t_cmp (Nat.le_refl 6) (e_attr (e_local rfl rfl ⟨e.a, 319, e.dx, e.fs, _, rfl, h1, h2, at319 _ (by simp), rfl, e_int ⟨_, c_eq _ _, fun hc => ?_, fun hc => ?_⟩⟩))))
    · rw [if_pos hc] at q
      exact s_cons (s_return (e_str q))
    · rw [if_neg (by rw [hc]; decide)] at q
      refine s_nil (s_cons (s_if (t_cmp (Nat.le_refl 6) (e_attr (e_local rfl rfl ⟨e.a, 319, e.dx, e.fs, _, rfl, h1, h2, at319 _ (by simp), rfl, e_attr (e_local rfl rfl ⟨e.a, 319, e.dx, e.fs, _, rfl, h1, h2, at319 _ (by simp), rfl, ⟨_, c_gt _ _, fun hc => ?_, fun hc => ?_⟩⟩)⟩)))))
      · rw [if_pos hc] at q
        exact s_cons (s_return (e_str q))
      · rw [if_neg (by rw [hc]; decide)] at q
        exact s_nil (s_cons (s_return (e_str q)))
set_option maxHeartbeats 1000000 in
theorem order_ok {d : Addr} {I : List Ent} {Q : AV → Hp → Prop} (W : WI H₀ d I H) (q : ∀ y (L : List Nat), H y = none → L.length ≤ 5 → (∀ j, j ∈ L ↔ ∃ e ∈ I, e.k = j ∧ e.inf.kind = ("perm" : Str)) → Q (.ref y) (H.put y (.list (avn L)))) : Ct prog w 435 8 [.ref d] H Q := by
  refine Ct.weak (ct_def (fa := 435) (n := 7) rfl ?_ ?_ ?_ ?_ ?_ ?_ ?_ ?_)
  · rfl
  · intro vs h
    rcases vs with _ | ⟨a, _ | _⟩ <;> first | rfl | (simp at h)
  · rfl
  · rfl
  · rfl
  · rfl
  · rfl
  · intro f A gg L0
    have hIl := W.len
    refine s_cons (s_assign rfl (e_list (es_nil ⟨Nat.le_of_ble_eq_true rfl, fun y hy => ?_⟩)))
    refine s_cons (s_forList rfl (e_callB (by kernel_rfl) rfl (by decide) rfl (es_cons (e_local rfl rfl (es_nil (cv_sortedD (put_old hy W.dict) W.dm (by unfold dictOfE; rw [List.length_map]; omega) fun z ns hz hns => ?_))))))
    have hzy := (put_none hz).1
    have hns' : ∀ k : Int, k ∈ ns ↔ ∃ e ∈ I, (e.k : Int) = k := fun k => by
      rw [hns.mem_iff]
      unfold dictOfE
      simp
    have hnl : ns.length ≤ 5 := by rw [hns.length_eq]; unfold dictOfE; simp; exact hIl
    have up : ∀ {o} {a p}, H a = some p → ((H.put y o).put z (.list (avi ns))) a = some p := fun {o a p} e => by
      rw [put_ne (fun q => by have := (put_none hz).2; rw [← q, e] at this; cases this), put_ne (fun q => by rw [← q, e] at hy; cases hy)]; exact e
    have gy : ∀ {o}, ((H.put y o).put z (.list (avi ns))) y = some o := fun {o} => by rw [put_ne hzy.symm, put_get]
    refine ⟨z, avi ns, rfl, put_get _ _ _, fun i ε H' => ∃ L : List Nat, L.length ≤ i ∧ (∀ j : Nat, j ∈ L ↔ (j : Int) ∈ ns.take i ∧ ∃ e ∈ I, e.k = j ∧ e.inf.kind = ("perm" : Str)) ∧ ε.get "infos" = some (.ref d) ∧ ε.get "order" = some (.ref y) ∧ H' = (H.put y (.list (avn L))).put z (.list (avi ns)),
      ⟨[], Nat.le_refl _, by intro j; simp, rfl, rfl, rfl⟩, fun i ε H' ⟨L, _, _, _, _, e⟩ => by subst e; exact put_get _ _ _, ?_, ?_⟩
    · intro i ε H' p hi hh
      refine Exists.elim hh fun L hh1 => and5 hh1 fun hL hm h1 h2 hq04 => ?_
      clear hh1 hh
      subst hq04
      have hi' : i < ns.length := by simpa [avi] using hi
      have hg : (avi ns).getD i .none = .int ns[i] := by unfold avi; rw [List.getD_eq_getElem?_getD, List.getElem?_map, List.getElem?_eq_getElem hi']; rfl
      rw [hg]
      obtain ⟨e, he, hek⟩ := (hns' ns[i]).mp (List.getElem_mem hi')
      obtain ⟨a1, a2, a3, a4, a5⟩ := W.ent e he
      have htk : ns.take (i + 1) = ns.take i ++ [ns[i]] := take_succ_get hi'
      rw [← hek] at htk ⊢
      refine s_cons (s_assign rfl (e_itemD (e_local (by exact h1) rfl (e_local rfl rfl ⟨d, e.k, dictOfE I, .ref e.a, rfl, rfl, up W.dict, kvGet_dict W.nk he, ?_⟩))))
      refine s_cons (s_if (t_cmp (Nat.le_of_ble_eq_true rfl) (e_attr (e_local rfl rfl ⟨e.a, 319, e.dx, e.fs, _, rfl, up a1, up a2, at319 _ (by simp), rfl, e_str ⟨_, c_seq _ _, fun hc => ?_, fun hc => ?_⟩⟩))))
      · have hperm : e.inf.kind = ("perm" : Str) := beq_iff_eq.mp hc
        refine s_cons (s_assign rfl (e_callB (by kernel_rfl) rfl (by decide) rfl (es_cons (e_local (by exact h2) rfl (es_nil (cv_len gy (by rw [avn_len]; omega) ?_))))))
        refine s_cons (s_while (fun n ε₁ H₁ => n ≤ L.length ∧ ε₁.get "at" = some (.int n) ∧ ε₁.get "k" = some (.int e.k) ∧ ε₁.get "info" = some (.ref e.a) ∧ ε₁.get "infos" = some (.ref d) ∧ ε₁.get "order" = some (.ref y) ∧ H₁ = (H.put y (.list (avn L))).put z (.list (avi ns))) L.length
          ⟨Nat.le_refl _, by rw [avn_len]; rfl, rfl, rfl, h1, h2, rfl⟩ ?_)
        intro n ε₁ H₁ hh
        refine and7 hh fun hn k1 k2 k3 k4 k5 hq06 => ?_
        clear hh
        subst hq06
        refine T1.mono (Q := fun b H₁ => (b = true → 0 < n) ∧ H₁ = (H.put y (.list (avn L))).put z (.list (avi ns))) ?_ fun b H₁ ⟨eb, eH⟩ => ⟨fun hb => ?_, fun hb => ?_⟩
        · refine t_and (t_cmp (Nat.le_of_ble_eq_true rfl) (e_local k1 rfl (e_int ⟨_, c_gt _ _, fun hc => ?_, fun hc => ?_⟩)))
          · exact ⟨fun h => (by cases h), rfl⟩
          · have hn0 : 0 < n := by have := of_decide_eq_true hc; omega
            obtain ⟨n', rfl⟩ : ∃ m, n = m + 1 := ⟨n - 1, by omega⟩
            have hlt : n' < L.length := by omega
            obtain ⟨_, e2, he2, hk2, _⟩ := (hm L[n']).mp (List.getElem_mem hlt)
            obtain ⟨b1, b2, b3, b4, b5⟩ := W.ent e2 he2
            have hidx : ((n' + 1 : Nat) : Int) - 1 = ((n' : Nat) : Int) := by omega
            have hget : (avn L)[n']? = some (.int (e2.k : Int)) := by unfold avn avi; rw [List.map_map, List.getElem?_map, List.getElem?_eq_getElem hlt, hk2]; rfl
            refine t_and (t_cmp (Nat.le_of_ble_eq_true rfl) (e_attr (e_itemD (e_local k4 rfl (e_itemX (e_local k5 rfl (e_sub (e_local k1 rfl (e_int ⟨_, _, rfl, rfl, n', avn L, .int (e2.k : Int), by rw [hidx], by omega, hget,
              ⟨d, e2.k, dictOfE I, .ref e2.a, rfl, rfl, up W.dict, kvGet_dict W.nk he2, e2.a, 319, e2.dx, e2.fs, _, rfl, up b1, up b2, at319 _ (by simp), rfl, e_attr (e_local k3 rfl ⟨e.a, 319, e.dx, e.fs, _, rfl, up a1, up a2, at319 _ (by simp), rfl, ⟨_, c_lt _ _, fun _ => ⟨fun h => (by cases h), rfl⟩, fun _ => t_and0 ⟨fun _ => hn0, rfl⟩⟩⟩)⟩, .inr ⟨y, rfl, gy⟩⟩)))))))))
        · subst eH
          have hn0 := eb hb
          refine s_cons (s_augSub k1 rfl (e_int ⟨1, rfl, ?_⟩))
          refine s_nil ⟨n - 1, by omega, by omega, ?_, k2, k3, k4, k5, rfl⟩
          show some (AV.int ((n : Int) - 1)) = some (.int ((n - 1 : Nat) : Int))
          congr 2; omega
        · subst eH
          refine s_cons (s_expr (e_methB (e_local k5 rfl ⟨y, _, rfl, mb_insert gy, es_cons (e_local k1 rfl (es_cons (e_local k2 rfl (es_nil (cv_insert (k := n) gy (by rw [avn_len]; omega) (by rw [avn_len]; omega) ⟨rfl, ?_⟩)))))⟩)))
          have e1 : (avn L).take n ++ AV.int (e.k : Int) :: (avn L).drop n = avn (L.take n ++ e.k :: L.drop n) := by unfold avn avi; simp [List.map_take, List.map_drop]
          rw [e1, put_comm hzy, put_put]
          refine s_nil (s_nil ⟨L.take n ++ e.k :: L.drop n, by simp; omega, fun j => ?_, k4, k5, rfl⟩)
          rw [htk]
          have e2 : j ∈ L.take n ++ e.k :: L.drop n ↔ j ∈ L ∨ j = e.k := by
            conv => rhs; rw [← List.take_append_drop n L]
            simp only [List.mem_append, List.mem_cons]
            constructor
            · rintro (h | h | h)
              · exact .inl (.inl h)
              · exact .inr h
              · exact .inl (.inr h)
            · rintro ((h | h) | h)
              · exact .inl h
              · exact .inr (.inr h)
              · exact .inr (.inl h)
          rw [e2, hm]
          simp only [List.mem_append, List.mem_singleton]
          constructor
          · rintro (⟨h, h'⟩ | rfl)
            · exact ⟨.inl h, h'⟩
            · exact ⟨.inr rfl, e, he, rfl, hperm⟩
          · rintro ⟨h | h, h'⟩
            · exact .inl ⟨h, h'⟩
            · exact .inr (by omega)
      · have hnp : e.inf.kind ≠ ("perm" : Str) := fun h => by rw [h] at hc; simp at hc
        refine s_nil (s_nil ⟨L, by omega, fun j => ?_, h1, h2, rfl⟩)
        rw [hm, htk]
        simp only [List.mem_append, List.mem_singleton]
        constructor
        · rintro ⟨h, h'⟩; exact ⟨.inl h, h'⟩
        · rintro ⟨h | h, h'⟩
          · exact ⟨h, h'⟩
          · obtain ⟨e2, he2, hk2, hp2⟩ := h'
            have : e2 = e := nk_inj W.nk he2 he (by omega)
            rw [this] at hp2; exact absurd hp2 hnp
    · intro ε H' hh
      refine Exists.elim hh fun L hh1 => and5 hh1 fun hL hm h1 h2 hq04 => ?_
      clear hh1 hh
      subst hq04
      have hall : (avi ns).length = ns.length := by unfold avi; simp
      rw [hall, List.take_length] at hm
      refine s_cons (s_return (e_local h2 rfl ⟨_, Sub.fresh ?_, q y L hy (by rw [hall] at hL; omega) fun j => ?_⟩))
      · have := (put_none hz).2; rw [put_ne hzy]; exact this
      · rw [hm]
        constructor
        · rintro ⟨_, h⟩; exact h
        · rintro ⟨e, he, hk, hp⟩; exact ⟨(hns' _).mpr ⟨e, he, by omega⟩, e, he, hk, hp⟩
end
end Mine
set_option Elab.async false
set_option linter.unusedVariables false
set_option maxRecDepth 100000
namespace Mine
open PySem PySem.W PySem.Calls PySem.Spec PyProof.Rows
section
variable {prog : Program} {w : World} {f : Fm} {ε : En} {H H₀ : Hp}
theorem survey_ok {x dx : Addr} {Q : AV → Hp → Prop} (hx : H x = none) (hdx : H dx = none) (hne : x ≠ dx)
    (q : ∀ d, ((H.put x (.inst 417 dx)).put dx (.ns [])) d = none → d ≠ sysModules → Q .none (((H.put x (.inst 417 dx)).put dx (.ns [("infos", .ref d)])).put d (.dict []))) :
    Ct prog w 400 1 [.ref x] ((H.put dx (.ns [])).put x (.inst 417 dx)) Q := by
  refine ct_def (fa := 400) (n := 0) rfl ?_ ?_ ?_ ?_ ?_ ?_ ?_ ?_
  · rfl
  · intro vs h
    rcases vs with _ | ⟨a, _ | _⟩ <;> first | rfl | (simp at h)
  · rfl
  · rfl
  · rfl
  · rfl
  · rfl
  · intro f A g L
    rw [put_comm hne.symm]
    refine s_cons (s_field (C := 417) (dx := dx) (a := x) (fs := []) rfl rfl st417_infos (by exact Nat.le_of_ble_eq_true rfl) (e_dict0 fun d hd hdm => ⟨put_old hd (by rw [put_ne hne, put_get]), put_old hd (put_get _ _ _), ?_⟩))
    have hdd := (put_none hd).1
    rw [put_comm hdd.symm.symm, put_put]
    exact s_nil (q d hd hdm)
theorem st375 (x : Str) (h : x ∈ (["infos", "chunks", "needs_env", "env_size", "live_after"] : List Str)) : setOk (KK w) 375 x = true := by
  simp only [List.mem_cons, List.not_mem_nil, or_false] at h
  rcases h with rfl | rfl | rfl | rfl | rfl <;> kernel_rfl
theorem plan_ok {x dx : Addr} {a1 a2 a3 a4 a5 : AV} {Q : AV → Hp → Prop} (hx : H x = none) (hdx : H dx = none) (hne : x ≠ dx)
    (q : Q .none ((H.put x (.inst 375 dx)).put dx (.ns [("infos", a1), ("chunks", a2), ("needs_env", a3), ("env_size", a4), ("live_after", a5)]))) :
    Ct prog w 337 1 [.ref x, a1, a2, a3, a4, a5] ((H.put dx (.ns [])).put x (.inst 375 dx)) Q := by
  refine ct_def (fa := 337) (n := 0) rfl ?_ ?_ ?_ ?_ ?_ ?_ ?_ ?_
  · rfl
  · intro vs h
    rcases vs with _ | ⟨a, _ | ⟨b, _ | ⟨c, _ | ⟨d, _ | ⟨e, _ | ⟨f, _ | _⟩⟩⟩⟩⟩⟩ <;> first | rfl | (simp at h)
  · rfl
  · rfl
  · rfl
  · rfl
  · rfl
  · intro f A g L
    rw [put_comm hne.symm]
    generalize hH1 : H.put x (.inst 375 dx) = H1 at *
    have g1 : ∀ fs, (H1.put dx (.ns fs)) x = some (.inst 375 dx) := fun fs => by rw [put_ne hne, ← hH1, put_get]
    refine s_cons (s_field (C := 375) (dx := dx) (a := x) (fs := []) rfl rfl (st375 _ (by simp)) (by exact Nat.le_of_ble_eq_true rfl) (e_local rfl rfl ⟨g1 _, put_get _ _ _, ?_⟩))
    rw [put_put]
    refine s_cons (s_field (C := 375) (dx := dx) (a := x) (fs := [("infos", a1)]) rfl rfl (st375 _ (by simp)) (by exact Nat.le_of_ble_eq_true rfl) (e_local rfl rfl ⟨g1 _, put_get _ _ _, ?_⟩))
    rw [put_put]
    refine s_cons (s_field (C := 375) (dx := dx) (a := x) (fs := [("infos", a1), ("chunks", a2)]) rfl rfl (st375 _ (by simp)) (by exact Nat.le_of_ble_eq_true rfl) (e_local rfl rfl ⟨g1 _, put_get _ _ _, ?_⟩))
    rw [put_put]
    refine s_cons (s_field (C := 375) (dx := dx) (a := x) (fs := [("infos", a1), ("chunks", a2), ("needs_env", a3)]) rfl rfl (st375 _ (by simp)) (by exact Nat.le_of_ble_eq_true rfl) (e_local rfl rfl ⟨g1 _, put_get _ _ _, ?_⟩))
    rw [put_put]
    refine s_cons (s_field (C := 375) (dx := dx) (a := x) (fs := [("infos", a1), ("chunks", a2), ("needs_env", a3), ("env_size", a4)]) rfl rfl (st375 _ (by simp)) (by exact Nat.le_of_ble_eq_true rfl) (e_local rfl rfl ⟨g1 _, put_get _ _ _, ?_⟩))
    rw [put_put]
    exact s_nil q
theorem kc_ok {x dx : Addr} {a1 a2 a3 a4 : AV} {Q : AV → Hp → Prop} (hx : H x = none) (hdx : H dx = none) (hne : x ≠ dx)
    (q : Q .none ((H.put x (.inst 284 dx)).put dx (.ns [("functor", a1), ("args", a2), ("goals", a3), ("count", a4)]))) :
    Ct prog w 281 1 [.ref x, a1, a2, a3, a4] ((H.put dx (.ns [])).put x (.inst 284 dx)) Q := by
  refine ct_def (fa := 281) (n := 0) rfl ?_ ?_ ?_ ?_ ?_ ?_ ?_ ?_
  · rfl
  · intro vs h
    rcases vs with _ | ⟨a, _ | ⟨b, _ | ⟨c, _ | ⟨d, _ | ⟨e, _ | _⟩⟩⟩⟩⟩ <;> first | rfl | (simp at h)
  · rfl
  · rfl
  · rfl
  · rfl
  · rfl
  · intro f A g L
    rw [put_comm hne.symm]
    generalize hH1 : H.put x (.inst 284 dx) = H1 at *
    have g1 : ∀ fs, (H1.put dx (.ns fs)) x = some (.inst 284 dx) := fun fs => by rw [put_ne hne, ← hH1, put_get]
    refine s_cons (s_field (C := 284) (dx := dx) (a := x) (fs := []) rfl rfl st284_functor (by exact Nat.le_of_ble_eq_true rfl) (e_local rfl rfl ⟨g1 _, put_get _ _ _, ?_⟩))
    rw [put_put]
    refine s_cons (s_field (C := 284) (dx := dx) (a := x) (fs := [("functor", a1)]) rfl rfl st284_args (by exact Nat.le_of_ble_eq_true rfl) (e_local rfl rfl ⟨g1 _, put_get _ _ _, ?_⟩))
    rw [put_put]
    refine s_cons (s_field (C := 284) (dx := dx) (a := x) (fs := [("functor", a1), ("args", a2)]) rfl rfl st284_goals (by exact Nat.le_of_ble_eq_true rfl) (e_local rfl rfl ⟨g1 _, put_get _ _ _, ?_⟩))
    rw [put_put]
    refine s_cons (s_field (C := 284) (dx := dx) (a := x) (fs := [("functor", a1), ("args", a2), ("goals", a3)]) rfl rfl st284_count (by exact Nat.le_of_ble_eq_true rfl) (e_local rfl rfl ⟨g1 _, put_get _ _ _, ?_⟩))
    rw [put_put]
    exact s_nil q
end
/-- the counts alone -/
noncomputable def CntC (I : List Ent) (c : Nat → Nat) : Prop := ∀ j, 1 ≤ c j → ∃ e ∈ I, e.k = j ∧ (c j : Int) ≤ e.inf.cnt
theorem CntC.set {I : List Ent} {c : Nat → Nat} (h : CntC I c) (k : Nat) {g : Inf → Inf} (hg : ∀ i, (g i).cnt = i.cnt) : CntC (setE I k g) c := fun j hj => by
  obtain ⟨e, he, h1, h2⟩ := h j hj
  refine ⟨_, mem_setE' k g he, ?_, ?_⟩
  · split <;> exact h1
  · split
    · dsimp only; rw [hg]; exact h2
    · exact h2
/-- the plan that a table stands for -/
noncomputable def entOf (I : List Ent) (k : Nat) : Option Ent := I.find? fun e => e.k == k
noncomputable def planOf (I : List Ent) : Pl := ⟨fun k => match entOf I k with | some e => e.inf.kind | none => "", fun k => match entOf I k with | some e => e.inf.slot | none => 0, fun k => (entOf I k).isSome⟩
theorem entOf_mem {I : List Ent} (hn : (I.map (·.k)).Nodup) {e : Ent} (he : e ∈ I) : entOf I e.k = some e := by
  unfold entOf
  cases q : I.find? fun x => x.k == e.k with
  | none => have := List.find?_eq_none.mp q e he; simp at this
  | some x =>
    have h1 := List.mem_of_find?_eq_some q
    have h2 : (x.k == e.k) = true := List.find?_some (p := fun x : Ent => x.k == e.k) q
    rw [nk_inj hn h1 he (beq_iff_eq.mp h2)]
theorem entOf_some {I : List Ent} {k : Nat} {e : Ent} (h : entOf I k = some e) : e ∈ I ∧ e.k = k := by
  unfold entOf at h
  have h2 : (e.k == k) = true := List.find?_some (p := fun x : Ent => x.k == k) h
  exact ⟨List.mem_of_find?_eq_some h, beq_iff_eq.mp h2⟩
theorem planOf_ok {I : List Ent} {H H₀ : Hp} {d pl pdx : Addr} {pfs : List (Str × AV)} (W : WI H₀ d I H) (h1 : H pl = some (.inst 375 pdx)) (h2 : H pdx = some (.ns pfs)) (h3 : nsGetL "infos" pfs = some (.ref d)) : PlanOk H pl (planOf I) := by
  refine ⟨pdx, pfs, d, dictOfE I, h1, h2, h3, W.dict, W.dm, fun k hk => ?_⟩
  obtain ⟨e, he⟩ := Option.isSome_iff_exists.mp (show (entOf I k).isSome = true from hk)
  obtain ⟨hm, rfl⟩ := entOf_some he
  obtain ⟨a1, a2, a3, a4, a5⟩ := W.ent e hm
  refine ⟨a5, e.a, e.dx, e.fs, kvGet_dict W.nk hm, a1, a2, ?_, ?_⟩
  · show some (AV.str e.inf.kind) = some (.str (match entOf I e.k with | some e => e.inf.kind | none => ""))
    rw [he]
  · show some (AV.int e.inf.slot) = some (.int (match entOf I e.k with | some e => e.inf.slot | none => 0))
    rw [he]
end Mine
set_option Elab.async false
set_option linter.unusedVariables false
set_option maxRecDepth 100000
namespace Mine
open PySem PySem.W PySem.Calls PySem.Spec PyProof.Rows
noncomputable def glTs (gs : List Gl) : List Tm := gs.flatMap Gl.ts
theorem WI.beside {H₀ H : Hp} {d : Addr} {I : List Ent} (W : WI H₀ d I H) {a : Addr} {o : AO} (h : H a = none) : WI H₀ d I (H.put a o) := (W.fresh h).ground (Sub.fresh (W.sub.none h))
theorem addT_append (c : Nat → Nat) (l k : List Tm) : addT c (l ++ k) = addT (addT c l) k := by unfold addT; rw [List.foldl_append]
theorem glTs_succ {gs : List Gl} {i : Nat} (h : i < gs.length) : glTs (gs.take (i + 1)) = glTs (gs.take i) ++ (gs[i]).ts := by
  unfold glTs
  rw [take_succ_get h, List.flatMap_append]; simp
theorem getD_keys (I : List Ent) {i : Nat} (h : i < I.length) : ((dictOfE I).map (·.1)).getD i 0 = ((I[i]).k : Int) := by
  unfold dictOfE
  rw [List.map_map, List.getD_eq_getElem?_getD, List.getElem?_map, List.getElem?_eq_getElem h]; rfl
section
variable {prog : Program} {w : World} {f : Fm} {ε : En} {H : Hp}
set_option maxHeartbeats 4000000 in
theorem classify_ok {kr kdx ga : Addr} {kfs : List (Str × AV)} {heads : List Tm} {gs : List Gl} {Q : AV → Hp → Prop} (hk : H kr = some (.inst 284 kdx)) (hkd : H kdx = some (.ns kfs)) (hgo : nsGetL "goals" kfs = some (.ref ga)) (har : nsGetL "args" kfs = some (.tup (heads.map Tm.enc)))
    (hga : H ga = some (.list (gs.map Gl.enc))) (hgl : gs.length < 50) (hl1 : ∀ t ∈ heads, t.low ∧ t.size < 100) (hl2 : ∀ t ∈ glTs gs, t.low ∧ t.size < 100)
    (q : ∀ pl P H', Sub H H' → PlanOk H' pl P → (∀ j, 1 ≤ addT (fun _ => 0) (heads ++ glTs gs) j → P.dom j = true) → (∀ j, 2 ≤ addT (fun _ => 0) (heads ++ glTs gs) j → P.vd j = false) → (∀ j, P.dom j = true → (0 < P.sl j ↔ P.pm j = true)) → Q (.ref pl) H') :
    Ct prog w 442 13 [.ref kr] H Q := by
  refine ct_def (fa := 442) (n := 12) rfl ?_ ?_ ?_ ?_ ?_ ?_ ?_ ?_
  · rfl
  · intro vs h
    rcases vs with _ | ⟨a, _ | _⟩ <;> first | rfl | (simp at h)
  · rfl
  · rfl
  · rfl
  · rfl
  · rfl
  · intro f A gg L
    refine s_cons (s_assign rfl (e_attr (e_local rfl rfl ⟨kr, 284, kdx, kfs, _, rfl, hk, hkd, at284_goals, hgo, ?_⟩)))
    refine s_cons (s_assign rfl (e_call (fa := .ref 386) (by kernel_rfl) (by kernel_rfl) rfl (es_cons (e_local rfl rfl (es_nil (cv_def (chunks_ok hga (by omega) fun ca cs hca hcs => ?_) (Nat.le_of_ble_eq_true rfl)))))))
    generalize hH1 : H.put ca (.list (avi cs)) = H1
    have up1 : Sub H H1 := by rw [← hH1]; exact Sub.fresh hca
    have gca1 : H1 ca = some (.list (avi cs)) := by rw [← hH1, put_get]
    refine s_cons (s_assign rfl (e_call0 (fa := .ref 417) (by kernel_rfl) (by kernel_rfl) rfl ?_))
    refine cv_make (n := 1) mk417 in417 fn400 (Nat.le_of_ble_eq_true rfl) fun sv sdx hsv hsdx hsne => survey_ok hsv hsdx hsne fun d hd hdm => ⟨rfl, ?_⟩
    generalize hG : (H1.put sv (.inst 417 sdx)).put sdx (.ns [("infos", .ref d)]) = G at *
    have hGd : G d = none := by
      obtain ⟨n1, hd⟩ := put_none hd
      obtain ⟨n2, hd⟩ := put_none hd
      rw [← hG, put_ne n1, put_ne n2]; exact hd
    have upG : Sub H1 G := by rw [← hG]; exact (Sub.fresh hsv).trans (sub_put (Sub.refl _) (by rw [put_ne hsne.symm]; exact hsdx))
    have gs1 : G sv = some (.inst 417 sdx) := by rw [← hG, put_ne hsne, put_get]
    have gs2 : G sdx = some (.ns [("infos", .ref d)]) := by rw [← hG, put_get]
    have W0 : WI G d [] (G.put d (.dict [])) := ⟨Sub.fresh hGd, hGd, hdm, put_get _ _ _, fun e he => (by cases he), List.nodup_nil, List.nodup_nil⟩
    have C0 : MetC [] (fun _ => 0) := ⟨fun e he => (by cases he), fun j hj => absurd hj (by simp)⟩
    have ug : ∀ {a o}, H a = some o → G a = some o := fun e => upG _ _ (up1 _ _ e)
    -- the head
    refine s_cons (s_expr (e_meth (e_local rfl rfl ⟨sv, 417, sdx, _, 414, rfl, W0.sub _ _ gs1, W0.sub _ _ gs2, me_terms, rfl, es_cons (e_attr (e_local rfl rfl ⟨kr, 284, kdx, kfs, _, rfl, W0.sub _ _ (ug hk), W0.sub _ _ (ug hkd), at284_args, har,
      es_cons (e_str (es_cons (e_neg (e_int ⟨1, rfl, es_cons (e_int (es_nil ?_))⟩))))⟩))⟩)))
    refine cv_def (terms_ok W0 C0 gs1 gs2 hl1 (by decide) fun H2 I2 W2 C2 => ⟨rfl, ?_⟩) (Nat.le_of_ble_eq_true rfl)
    refine s_cons (s_assign rfl (e_bool ?_))
    have hglen : (gs.map Gl.enc).length = gs.length := List.length_map ..
    -- the goals
    refine s_cons (s_forRange rfl (e_callT (by kernel_rfl) rfl (by decide) rfl (es_cons (e_callB (by kernel_rfl) rfl (by decide) rfl (es_cons (e_local rfl rfl (es_nil (cv_len (W2.sub _ _ (ug hga)) (by omega) (es_nil (cv_range fun r hr => ?_))))))))))
    have W2r := W2.fresh (o := .rng (((gs.map Gl.enc).length : Nat) : Int)) hr
    have hrG := W2.sub.none hr
    generalize hGr : G.put r (.rng (((gs.map Gl.enc).length : Nat) : Int)) = Gr at *
    have upr : Sub G Gr := by rw [← hGr]; exact Sub.fresh hrG
    refine ⟨r, gs.length, rfl, by rw [put_get, hglen], by omega, fun i ε H' => (∃ I', WI Gr d I' H' ∧ MetC I' (addT (addT (fun _ => 0) heads) (glTs (gs.take i)))) ∧ ε.get "goals" = some (.ref ga) ∧ ε.get "chunks" = some (.ref ca) ∧ ε.get "survey" = some (.ref sv) ∧ ∃ b, ε.get "needs_env" = some (.bool b),
      ⟨⟨I2, W2r, C2⟩, rfl, rfl, rfl, _, rfl⟩, ?_, ?_⟩
    · rintro i ε H' p hi ⟨⟨I', W', C'⟩, h1, h2, h3, b, h4⟩
      have eg := glTs_succ hi
      have hlg : ∀ t ∈ (gs[i]).ts, t.low ∧ t.size < 100 := fun t ht => hl2 t (List.mem_flatMap.mpr ⟨_, List.getElem_mem hi, ht⟩)
      have hgi : (gs.map Gl.enc)[i]? = some (gs[i]).enc := by rw [List.getElem?_map, List.getElem?_eq_getElem hi]; rfl
      have hci : ∃ cv, (avi cs)[i]? = some (.int cv) := by
        refine ⟨cs[i]'(by omega), ?_⟩
        unfold avi; rw [List.getElem?_map, List.getElem?_eq_getElem (by omega)]; rfl
      obtain ⟨cv, hcv⟩ := hci
      have fin : ∀ {ε₁ : En} {H₁ : Hp}, (∃ I', WI Gr d I' H₁ ∧ MetC I' (addT (addT (addT (fun _ => 0) heads) (glTs (gs.take i))) (gs[i]).ts)) → (ε₁.get "goals" = some (.ref ga) ∧ ε₁.get "chunks" = some (.ref ca) ∧ ε₁.get "survey" = some (.ref sv) ∧ ∃ b, ε₁.get "needs_env" = some (.bool b)) →
          (∃ I', WI Gr d I' H₁ ∧ MetC I' (addT (addT (fun _ => 0) heads) (glTs (gs.take (i + 1))))) ∧ ε₁.get "goals" = some (.ref ga) ∧ ε₁.get "chunks" = some (.ref ca) ∧ ε₁.get "survey" = some (.ref sv) ∧ ∃ b, ε₁.get "needs_env" = some (.bool b) := fun a b => by rw [eg, addT_append]; exact ⟨a, b⟩
      generalize gs[i] = gl at *
      generalize addT (addT (fun _ => 0) heads) (glTs (gs.take i)) = c1 at *
      refine s_cons (s_assign rfl (e_item (e_local (by exact h1) rfl (e_local rfl rfl ⟨i, _, _, rfl, by omega, hgi, ?_, .inr ⟨ga, rfl, W'.sub _ _ (upr _ _ (ug hga))⟩⟩))))
      refine s_cons (s_assign rfl (e_call (fa := .ref 302) (by kernel_rfl) (by kernel_rfl) rfl (es_cons (e_local rfl rfl (es_nil (cv_def (special_ok ?_) (Nat.le_of_ble_eq_true rfl)))))))
      refine s_cons (s_if (t_cmp (Nat.le_of_ble_eq_true rfl) (e_local rfl rfl (e_int ⟨_, c_ge _ _, fun hc => absurd (of_decide_eq_true hc) (by decide), fun _ => ?_⟩))))
      refine s_nil (s_cons (s_expr (e_meth (e_local (by exact h3) rfl ⟨sv, 417, sdx, _, 414, rfl, W'.sub _ _ (upr _ _ gs1), W'.sub _ _ (upr _ _ gs2), me_terms, rfl, es_cons (e_call (fa := .ref 295) (by kernel_rfl) (by kernel_rfl) rfl (es_cons (e_local rfl rfl (es_nil ?_))))⟩))))
      refine cv_def (gterms_ok ?_) (Nat.le_of_ble_eq_true rfl)
      refine es_cons (e_str (es_cons (e_local rfl rfl (es_cons (e_item (e_local (by exact h2) rfl (e_local rfl rfl ⟨i, _, _, rfl, by omega, hcv, es_nil ?_, .inr ⟨ca, rfl, W'.sub _ _ (upr _ _ (upG _ _ gca1))⟩⟩)))))))
      refine cv_def (terms_ok W' C' (upr _ _ gs1) (upr _ _ gs2) hlg (by decide) fun H3 I3 W3 C3 => ⟨rfl, ?_⟩) (Nat.le_of_ble_eq_true rfl)
      refine s_cons (s_if (T1.mono (Q := fun b H₁ => H₁ = H3) ?_ fun bb H₁ eH => ⟨fun hb => ?_, fun hb => ?_⟩))
      · refine t_and (t_cmp (Nat.le_of_ble_eq_true rfl) (e_tm (by unfold Gl.enc; rfl) rfl (Gl.body0 gl) rfl (e_str ⟨_, c_seq _ _, fun _ => rfl, fun _ => ?_⟩)))
        refine t_and (t_cmp (Nat.le_of_ble_eq_true rfl) (e_add (e_local rfl rfl (e_int ⟨_, _, rfl, rfl, e_callB (by kernel_rfl) rfl (by decide) rfl (es_cons (e_local (by exact h1) rfl (es_nil (cv_len (W3.sub _ _ (upr _ _ (ug hga))) (by omega) ⟨_, c_lt _ _, fun _ => rfl, fun _ => t_and0 rfl⟩))))⟩))))
      · subst eH
        refine s_cons (s_assign rfl (e_bool ?_))
        exact s_nil (s_nil (fin ⟨I3, W3, C3⟩ ⟨h1, h2, h3, _, rfl⟩))
      · subst eH
        exact s_nil (s_nil (fin ⟨I3, W3, C3⟩ ⟨h1, h2, h3, b, h4⟩))
    · rintro ε H' ⟨⟨I3, W3, C3⟩, h1, h2, h3, b, h4⟩
      rw [List.take_length, ← addT_append] at C3
      generalize addT (fun _ => 0) (heads ++ glTs gs) = cT at *
      have hlen3 := W3.len
      refine s_cons (s_assign rfl (e_attr (e_local h3 rfl ⟨sv, 417, sdx, _, _, rfl, W3.sub _ _ (upr _ _ gs1), W3.sub _ _ (upr _ _ gs2), at417_infos, rfl, ?_⟩)))
      -- the kinds
      refine s_cons (s_forKeys rfl (e_local rfl rfl ⟨d, dictOfE I3, rfl, W3.dict, hdm, fun p hp => by obtain ⟨e, _, rfl⟩ := List.mem_map.mp hp; exact ⟨e.a, rfl⟩, fun ob hob => ⟨fun i ε H' => ∃ I', H' d = some (.opq ob) ∧ WI Gr d I' (H'.put d (.dict (dictOfE I'))) ∧ I'.map (·.k) = I3.map (·.k) ∧ dictOfE I' = dictOfE I3 ∧ CntC I' cT ∧
        (∀ e ∈ I', e.inf.slot = 0 ∧ (e.k ∈ (I3.map (·.k)).take i → e.inf.kind = kindOf e.inf)) ∧ ε.get "infos" = some (.ref d) ∧ ε.get "goals" = some (.ref ga) ∧ ε.get "chunks" = some (.ref ca) ∧ ε.get "needs_env" = some (.bool b),
        ⟨I3, put_get _ _ _, by rw [put_put, put_same W3.dict]; exact W3, rfl, rfl, C3.2, fun e he => ⟨(C3.1 e he).2, fun h => by simp at h⟩, rfl, h1, h2, h4⟩, fun i ε H' ⟨I', h, _⟩ => h, ?_, ?_⟩⟩))
      · intro i ε H' p hi hh
        refine Exists.elim hh fun I' hh1 => and10 hh1 fun ho W' hks hdi hc' hsl g1 g2 g3 g4 => ?_
        clear hh1 hh
        have hi' : i < I3.length := by unfold dictOfE at hi; simpa using hi
        rw [getD_keys I3 hi']
        obtain ⟨e, he, hek⟩ : ∃ e ∈ I', e.k = I3[i].k := by
          have : I3[i].k ∈ I'.map (·.k) := by rw [hks]; exact List.mem_map.mpr ⟨_, List.getElem_mem hi', rfl⟩
          obtain ⟨e, he, h⟩ := List.mem_map.mp this
          exact ⟨e, he, h⟩
        have htk : (I3.map (·.k)).take (i + 1) = (I3.map (·.k)).take i ++ [I3[i].k] := by rw [take_succ_get (by simpa using hi')]; simp
        rw [← hek] at htk ⊢
        obtain ⟨a1, a2, a3, a4, a5⟩ := W'.ent e he
        have nda : e.a ≠ d := fun z => by rw [z, put_get] at a1; cases a1
        have ndd : e.dx ≠ d := fun z => by rw [z, put_get] at a2; cases a2
        have b1 : H' e.a = some (.inst 319 e.dx) := by rw [put_ne nda] at a1; exact a1
        have b2 : H' e.dx = some (.ns e.fs) := by rw [put_ne ndd] at a2; exact a2
        have hkv : kvGet (e.k : Int) (dictOfE I3) = some (.ref e.a) := by rw [← hdi]; exact kvGet_dict W'.nk he
        refine s_cons (s_setAttr (e_call (fa := .ref 428) (by kernel_rfl) (by kernel_rfl) rfl (es_cons (e_itemO (e_local (by exact g1) rfl (e_local rfl rfl ⟨d, e.k, _, _, ob, rfl, rfl, ho, hob, hkv, es_nil ?_⟩))))))
        refine cv_def (kind_ok b1 b2 ?_) (Nat.le_of_ble_eq_true rfl)
        refine e_itemO (e_local (by exact g1) rfl (e_local rfl rfl ⟨d, e.k, _, _, ob, rfl, rfl, ho, hob, hkv, e.a, 319, e.dx, e.fs, rfl, b1, b2, Nat.le_of_ble_eq_true rfl, st319 _ (by simp), ?_⟩))
        have W2 := W'.set he (fun i => { i with kind := kindOf i })
        refine s_nil ⟨setE I' e.k (fun i => { i with kind := kindOf i }), by rw [put_ne ndd.symm]; exact ho, ?_, by rw [setE_k]; exact hks, by rw [setE_dict]; exact hdi, hc'.set _ (fun i => rfl), fun u hu => ?_, g1, g2, g3, g4⟩
        · rw [setE_dict, put_comm ndd]; exact W2
        · obtain ⟨x, hx, rfl⟩ := setE_mem hu
          have hx2 := hsl x hx
          rw [htk]
          split
          · exact ⟨hx2.1, fun _ => rfl⟩
          · rename_i hne
            refine ⟨hx2.1, fun h => hx2.2 ?_⟩
            rcases List.mem_append.mp h with h | h
            · exact h
            · exact absurd (List.mem_singleton.mp h) hne
      · intro ε H' hh
        refine Exists.elim hh fun I4 hh1 => and10 hh1 fun ho W4' hks hdi hc4 hsl g1 g2 g3 g4 => ?_
        clear hh1 hh
        have hkl : (dictOfE I3).length = (I3.map (·.k)).length := by unfold dictOfE; simp
        rw [hkl, List.take_length] at hsl
        rw [hdi] at W4'
        have hk4 : ∀ e ∈ I4, e.inf.slot = 0 ∧ e.inf.kind = kindOf e.inf := fun e he => ⟨(hsl e he).1, (hsl e he).2 (by rw [← hks]; exact List.mem_map.mpr ⟨e, he, rfl⟩)⟩
        generalize H'.put d (.dict (dictOfE I3)) = H4 at *
        refine s_cons (s_assign rfl (e_call (fa := .ref 435) (by kernel_rfl) (by kernel_rfl) rfl (es_cons (e_local g1 rfl (es_nil (cv_def (order_ok W4' fun y L0 hy hL hmem => ?_) (Nat.le_of_ble_eq_true rfl)))))))
        have W5 := W4'.fresh (o := .list (avn L0)) hy
        have hyG := W4'.sub.none hy
        refine s_cons (s_forRange rfl (e_callT (by kernel_rfl) rfl (by decide) rfl (es_cons (e_callB (by kernel_rfl) rfl (by decide) rfl (es_cons (e_local rfl rfl (es_nil (cv_len (W5.sub _ _ (put_get _ _ _)) (by rw [avn_len]; omega) (es_nil (cv_range fun r2 hr2 => ?_))))))))))
        have W6 := W5.fresh (o := .rng (((avn L0).length : Nat) : Int)) hr2
        have hr2G := W5.sub.none hr2
        have upy : Sub Gr (Gr.put y (.list (avn L0))) := Sub.fresh hyG
        have gy6 : ((Gr.put y (.list (avn L0))).put r2 (.rng (((avn L0).length : Nat) : Int))) y = some (.list (avn L0)) := put_old hr2G (put_get _ _ _)
        have up6 : Sub Gr ((Gr.put y (.list (avn L0))).put r2 (.rng (((avn L0).length : Nat) : Int))) := upy.trans (Sub.fresh hr2G)
        generalize ((Gr.put y (.list (avn L0))).put r2 (.rng (((avn L0).length : Nat) : Int))) = G6 at *
        refine ⟨r2, L0.length, rfl, by rw [put_get, avn_len], by omega, fun i ε H' => (∃ I', WI G6 d I' H' ∧ CntC I' cT ∧ I'.map (·.k) = I4.map (·.k) ∧ (∀ e ∈ I', (0 < e.inf.slot ↔ e.k ∈ L0.take i) ∧ e.inf.kind = kindOf e.inf ∧ ∃ e4 ∈ I4, e4.k = e.k ∧ e4.inf.kind = e.inf.kind)) ∧
          ε.get "infos" = some (.ref d) ∧ ε.get "goals" = some (.ref ga) ∧ ε.get "chunks" = some (.ref ca) ∧ ε.get "needs_env" = some (.bool b) ∧ ε.get "order" = some (.ref y),
          ⟨⟨I4, W6, hc4, rfl, fun e he => ⟨by rw [(hk4 e he).1]; simp, (hk4 e he).2, e, he, rfl, rfl⟩⟩, g1, g2, g3, g4, rfl⟩, ?_, ?_⟩
        · intro i ε H' p hi hh
          refine and6 hh fun hz00 g1 g2 g3 g4 g5 => ?_
          clear hh
          refine Exists.elim hz00 fun I' hy => and4 hy fun W' hc' hks' hall => ?_
          clear hy hz00
          obtain ⟨e, he, hek⟩ : ∃ e ∈ I', e.k = L0[i] := by
            obtain ⟨e4, he4, hk4', _⟩ := (hmem L0[i]).mp (List.getElem_mem hi)
            have : L0[i] ∈ I'.map (·.k) := by rw [hks', ← hk4']; exact List.mem_map.mpr ⟨e4, he4, rfl⟩
            obtain ⟨e, he, h⟩ := List.mem_map.mp this
            exact ⟨e, he, h⟩
          have htk : L0.take (i + 1) = L0.take i ++ [e.k] := by rw [take_succ_get hi, hek]
          have hget : (avn L0)[i]? = some (.int (e.k : Int)) := by unfold avn avi; rw [List.map_map, List.getElem?_map, List.getElem?_eq_getElem hi, hek]; rfl
          obtain ⟨a1, a2, a3, a4, a5⟩ := W'.ent e he
          refine s_cons (s_assign rfl (e_itemD (e_local (by exact g1) rfl (e_itemX (e_local (by exact g5) rfl (e_local rfl rfl ⟨i, _, _, rfl, by omega, hget, ⟨d, e.k, dictOfE I', .ref e.a, rfl, rfl, W'.dict, kvGet_dict W'.nk he, ?_⟩, .inr ⟨y, rfl, W'.sub _ _ gy6⟩⟩))))))
          refine s_cons (s_setAttr (e_add (e_local rfl rfl (e_int ⟨_, _, rfl, rfl, e_local rfl rfl ⟨e.a, 319, e.dx, e.fs, rfl, a1, a2, Nat.le_of_ble_eq_true rfl, st319 _ (by simp), ?_⟩⟩))))
          have W1 := W'.set he (fun x => { x with slot := (i : Int) + 1 })
          have m1 := mem_setE (fun x => { x with slot := (i : Int) + 1 }) he
          have c1 := hc'.set e.k (g := fun x => { x with slot := (i : Int) + 1 }) (fun x => rfl)
          have ef : nsPutL "slot" (.int ((i : Int) + 1)) e.fs = ({ e with inf := { e.inf with slot := (i : Int) + 1 } } : Ent).fs := rfl
          rw [ef]
          have k1 : (setE I' e.k fun x => { x with slot := (i : Int) + 1 }).map (·.k) = I4.map (·.k) := by rw [setE_k]; exact hks'
          have all1 : ∀ u ∈ (setE I' e.k fun x => { x with slot := (i : Int) + 1 }), (0 < u.inf.slot ↔ u.k ∈ L0.take (i + 1)) ∧ u.inf.kind = kindOf u.inf ∧ ∃ e4 ∈ I4, e4.k = u.k ∧ e4.inf.kind = u.inf.kind := fun u hu => by
            obtain ⟨x, hx, rfl⟩ := setE_mem hu
            obtain ⟨x1, x2, x3⟩ := hall x hx
            rw [htk]
            split
            · rename_i hk
              refine ⟨⟨fun _ => by rw [hk]; exact List.mem_append_right _ (.head _), fun _ => by show 0 < (i : Int) + 1; omega⟩, x2, x3⟩
            · rename_i hne
              refine ⟨⟨fun h => List.mem_append_left _ (x1.mp h), fun h => x1.mpr ?_⟩, x2, x3⟩
              rcases List.mem_append.mp h with h | h
              · exact h
              · exact absurd (List.mem_singleton.mp h) hne
          have ee : ({ e with inf := { e.inf with slot := (i : Int) + 1 } } : Ent).dx = e.dx ∧ ({ e with inf := { e.inf with slot := (i : Int) + 1 } } : Ent).a = e.a := ⟨rfl, rfl⟩
          generalize ({ e with inf := { e.inf with slot := (i : Int) + 1 } } : Ent) = e1 at *
          generalize (setE I' e.k fun x => { x with slot := (i : Int) + 1 }) = I1 at *
          rw [← ee.1] at W1 ⊢
          rw [← ee.2]
          generalize H'.put e1.dx (.ns e1.fs) = H1' at *
          obtain ⟨b1, b2, b3, b4, b5⟩ := W1.ent e1 m1
          refine s_cons (s_setAttr (e_cmp (Nat.le_of_ble_eq_true rfl) (e_attr (e_local rfl rfl ⟨e1.a, 319, e1.dx, e1.fs, _, rfl, b1, b2, at319 _ (by simp), rfl, e_str ⟨_, c_seq _ _, e_local rfl rfl ⟨e1.a, 319, e1.dx, e1.fs, rfl, b1, b2, Nat.le_of_ble_eq_true rfl, st319 _ (by simp), ?_⟩⟩⟩))))
          have W2 := W1.set m1 (fun x => { x with uns := x.first == ("goal_arg" : Str) })
          have c2 := c1.set e1.k (g := fun x => { x with uns := x.first == ("goal_arg" : Str) }) (fun x => rfl)
          refine s_nil ⟨⟨_, W2, c2, by rw [setE_k]; exact k1, fun u hu => ?_⟩, g1, g2, g3, g4, g5⟩
          obtain ⟨x, hx, rfl⟩ := setE_mem hu
          have := all1 x hx
          split
          · exact this
          · exact this
        · intro ε H7 hh
          refine and6 hh fun hz00 g1 g2 g3 g4 g5 => ?_
          clear hh
          refine Exists.elim hz00 fun I7 hy => and4 hy fun W7 hc7 hks7 hall => ?_
          clear hy hz00
          rw [List.take_length] at hall
          refine s_cons (s_assign rfl (e_list (es_nil ⟨Nat.le_of_ble_eq_true rfl, fun lv hlv => ?_⟩)))
          have W8 := W7.beside (o := .list []) hlv
          refine s_cons (s_forRange rfl (e_callT (by kernel_rfl) rfl (by decide) rfl (es_cons (e_callB (by kernel_rfl) rfl (by decide) rfl (es_cons (e_local (by exact g2) rfl (es_nil (cv_len (W8.sub _ _ (up6 _ _ (upr _ _ (ug hga)))) (by omega) (es_nil (cv_range fun r3 hr3 => ?_))))))))))
          have n3 := put_none hr3
          have gl9 : ∀ o, ((H7.put lv o).put r3 (.rng (((gs.map Gl.enc).length : Nat) : Int))) lv = some o := fun o => by rw [put_ne n3.1.symm, put_get]
          have W9 : ∀ o, WI G6 d I7 ((H7.put lv o).put r3 (.rng (((gs.map Gl.enc).length : Nat) : Int))) := fun o => (W7.beside (o := o) hlv).beside (by rw [put_ne n3.1]; exact n3.2)
          refine ⟨r3, gs.length, rfl, by rw [put_get, hglen], by omega, fun i ε H' => ∃ ls : List Int, ls.length = i ∧ ε.get "infos" = some (.ref d) ∧ ε.get "chunks" = some (.ref ca) ∧ ε.get "needs_env" = some (.bool b) ∧ ε.get "order" = some (.ref y) ∧ ε.get "live_after" = some (.ref lv) ∧ H' = (H7.put lv (.list (avi ls))).put r3 (.rng (((gs.map Gl.enc).length : Nat) : Int)),
            ⟨[], rfl, g1, g3, g4, g5, rfl, rfl⟩, ?_, ?_⟩
          · intro i ε H' p hi hh
            refine Exists.elim hh fun ls hh1 => and7 hh1 fun hls g1 g3 g4 g5 g6 hq06 => ?_
            clear hh1 hh
            subst hq06
            refine s_cons (s_assign rfl (e_int ?_))
            refine s_cons (s_while (fun n ε₁ H₁ => n ≤ L0.length ∧ ε₁.get "live" = some (.int ((L0.length - n : Nat) : Int)) ∧ ε₁.get "at" = some (.int i) ∧ ε₁.get "infos" = some (.ref d) ∧ ε₁.get "chunks" = some (.ref ca) ∧ ε₁.get "needs_env" = some (.bool b) ∧ ε₁.get "order" = some (.ref y) ∧ ε₁.get "live_after" = some (.ref lv) ∧ H₁ = (H7.put lv (.list (avi ls))).put r3 (.rng (((gs.map Gl.enc).length : Nat) : Int))) L0.length
              ⟨Nat.le_refl _, by rw [Nat.sub_self]; rfl, rfl, g1, g3, g4, g5, g6, rfl⟩ ?_)
            intro n ε₁ H₁ hh
            refine and9 hh fun hn k1 k2 k3 k4 k5 k6 k7 hq08 => ?_
            clear hh
            subst hq08
            have W10 := W9 (.list (avi ls))
            refine T1.mono (Q := fun bb H₁ => (bb = true → 0 < n) ∧ H₁ = (H7.put lv (.list (avi ls))).put r3 (.rng (((gs.map Gl.enc).length : Nat) : Int))) ?_ fun bb H₁ ⟨eb, eH⟩ => ⟨fun hb => ?_, fun hb => ?_⟩
            · refine t_and (t_cmp (Nat.le_of_ble_eq_true rfl) (e_local k1 rfl (e_callB (by kernel_rfl) rfl (by decide) rfl (es_cons (e_local k6 rfl (es_nil (cv_len (W10.sub _ _ gy6) (by rw [avn_len]; omega) ⟨_, c_lt _ _, fun hc => ?_, fun hc => ?_⟩)))))))
              · exact ⟨fun h => (by cases h), rfl⟩
              · have hlt : L0.length - n < L0.length := by have := of_decide_eq_true hc; rw [avn_len] at this; omega
                obtain ⟨e4, he4, hk4', _⟩ := (hmem L0[L0.length - n]).mp (List.getElem_mem hlt)
                obtain ⟨e2, he2, hk2⟩ : ∃ e ∈ I7, e.k = L0[L0.length - n] := by
                  have : L0[L0.length - n] ∈ I7.map (·.k) := by rw [hks7, ← hk4']; exact List.mem_map.mpr ⟨e4, he4, rfl⟩
                  obtain ⟨e, he, h⟩ := List.mem_map.mp this
                  exact ⟨e, he, h⟩
                obtain ⟨b1, b2, b3, b4, b5⟩ := W10.ent e2 he2
                have hget : (avn L0)[L0.length - n]? = some (.int (e2.k : Int)) := by unfold avn avi; rw [List.map_map, List.getElem?_map, List.getElem?_eq_getElem hlt, hk2]; rfl
                refine t_and (t_cmp (Nat.le_of_ble_eq_true rfl) (e_attr (e_itemD (e_local k3 rfl (e_itemX (e_local k6 rfl (e_local k1 rfl ⟨L0.length - n, _, _, rfl, by omega, hget, ⟨d, e2.k, dictOfE I7, .ref e2.a, rfl, rfl, W10.dict, kvGet_dict W10.nk he2, e2.a, 319, e2.dx, e2.fs, _, rfl, b1, b2, at319 _ (by simp), rfl,
                  e_local k2 rfl ⟨_, c_gt _ _, fun _ => ⟨fun h => (by cases h), rfl⟩, fun _ => t_and0 ⟨fun _ => by omega, rfl⟩⟩⟩, .inr ⟨y, rfl, W10.sub _ _ gy6⟩⟩)))))))
            · subst eH
              have hn0 := eb hb
              refine s_cons (s_augAdd k1 rfl (e_int ⟨1, rfl, ?_⟩))
              refine s_nil ⟨n - 1, by omega, by omega, ?_, k2, k3, k4, k5, k6, k7, rfl⟩
              show some (AV.int (((L0.length - n : Nat) : Int) + 1)) = some (.int ((L0.length - (n - 1) : Nat) : Int))
              congr 2; omega
            · subst eH
              refine s_cons (s_expr (e_methB (e_local k7 rfl ⟨lv, _, rfl, mb_append (gl9 _), es_cons (e_local k1 rfl (es_nil (cv_append (gl9 _) (by simp [avi]; omega) ⟨rfl, ?_⟩)))⟩)))
              have ea : avi ls ++ [AV.int ((L0.length - n : Nat) : Int)] = avi (ls ++ [((L0.length - n : Nat) : Int)]) := by simp [avi]
              rw [ea, put_comm n3.1, put_put]
              exact s_nil ⟨ls ++ [((L0.length - n : Nat) : Int)], by simp [hls], k3, k4, k5, k6, k7, rfl⟩
          · intro ε H' hh
            refine Exists.elim hh fun ls hh1 => and7 hh1 fun hls g1 g3 g4 g5 g6 hq06 => ?_
            clear hh1 hh
            subst hq06
            have W10 := W9 (.list (avi ls))
            generalize ((H7.put lv (.list (avi ls))).put r3 (.rng (((gs.map Gl.enc).length : Nat) : Int))) = H10 at *
            refine s_cons (s_return (e_call (fa := .ref 375) (by kernel_rfl) (by kernel_rfl) rfl (es_cons (e_local g1 rfl (es_cons (e_local g3 rfl (es_cons (e_local g4 rfl (es_cons (e_callB (by kernel_rfl) rfl (by decide) rfl (es_cons (e_local g5 rfl (es_nil (cv_len (W10.sub _ _ gy6) (by rw [avn_len]; omega) (es_cons (e_local g6 rfl (es_nil ?_)))))))))))))))))
            refine cv_make (n := 1) (by kernel_rfl) (fI := 337) (by kernel_rfl) (by kernel_rfl) (Nat.le_of_ble_eq_true rfl) fun pl pdx hpl hpdx hpne => plan_ok hpl hpdx hpne ⟨rfl, ?_⟩
            have W11 := (W10.beside (o := .inst 375 pdx) hpl).beside (o := .ns [("infos", .ref d), ("chunks", .ref ca), ("needs_env", .bool b), ("env_size", .int (((avn L0).length : Nat) : Int)), ("live_after", .ref lv)]) (by rw [put_ne hpne.symm]; exact hpdx)
            refine q pl (planOf I7) _ ?_ (planOf_ok W11 (by rw [put_ne hpne, put_get]) (put_get _ _ _) rfl) ?_ ?_ ?_
            · exact (fun a o e => W11.sub _ _ (up6 _ _ (upr _ _ (ug e))))
            · intro j hj
              obtain ⟨e, he, rfl, _⟩ := hc7 j hj
              show (entOf I7 e.k).isSome = true
              rw [entOf_mem W7.nk he]; rfl
            · intro j hj
              obtain ⟨e, he, rfl, hcnt⟩ := hc7 j (by omega)
              have hkd := (hall e he).2.1
              unfold Pl.vd planOf
              dsimp only
              rw [entOf_mem W7.nk he]
              dsimp only
              rw [hkd]
              unfold kindOf
              have h1 : (e.inf.cnt == 1) = false := by rw [beq_eq_false_iff_ne]; omega
              rw [h1]
              simp only [Bool.false_eq_true, if_false]
              split <;> decide
            · intro j hj
              obtain ⟨e, he⟩ := Option.isSome_iff_exists.mp (show (entOf I7 j).isSome = true from hj)
              obtain ⟨hm, rfl⟩ := entOf_some he
              obtain ⟨x1, x2, e4, he4, hk4', hkk⟩ := hall e hm
              unfold Pl.pm planOf
              dsimp only
              rw [he]
              dsimp only
              rw [x1, hmem, beq_iff_eq]
              constructor
              · rintro ⟨u, hu, h1, h2⟩
                have : u = e4 := nk_inj W4'.nk hu he4 (by rw [h1, hk4'])
                rw [← hkk, ← this]; exact h2
              · intro h
                exact ⟨e4, he4, hk4', by rw [hkk]; exact h⟩
end
end Mine
set_option Elab.async false
set_option linter.unusedVariables false
set_option maxRecDepth 100000
namespace Mine
open PySem PySem.W PySem.Calls PySem.Spec PyProof.Rows
section
variable {prog : Program} {w : World} {f : Fm} {ε : En} {H : Hp} {s : Shared} {m : Str → Option Value} {nx : Led}
/-- a cell of the frame is read -/
theorem e_cell {x : Str} {pos : Pos} {c t : Addr} {o : Obj} {Q : AV → Hp → Prop} (hc : f.cl.lookup x = some c) (hH : H c = some (.opq o)) (ho : o.data = .cell (some (.ref t))) (hx : f.env.kindOf x = some .cell) (q : Q (.ref t) H) (hd : (x == ("__debug__" : Str)) = false := by decide) : E1 prog w f (.Name x pos) ε H Q := fun ok s m nx S => by
  obtain ⟨ob, hm, hob⟩ := S.obj _ _ hH
  obtain ⟨rfl, _, _⟩ := hob.ofOpq
  exact nameX_C S.N hc hm ho ⟨.refl s, nx, _, H, S, .refl _, .ref t, q⟩ ok.kind hx hd
/-- a cell of the frame is set -/
theorem s_cell {x : Str} {p pos : Pos} {e : PySem.Expr} {c : Addr} {Q : FV → En → Hp → Prop} (hc : f.cl.lookup x = some c) (hx : f.env.kindOf x = some .cell)
    (h : E1 prog w f e ε H fun v H₁ => ∃ t o v₀, v = .ref t ∧ H₁ c = some (.opq o) ∧ o.data = .cell v₀ ∧ ∀ o', o'.data = .cell (some (.ref t)) → Q .next ε (H₁.put c (.opq o'))) (hs : swapsWith e (some (.Name x p)) pos.line f.env = pure false := by rfl) :
    S1 prog w f (exec (.Assign [.Name x p] e pos) f.env) ε H Q := fun ok s m nx S =>
  wpAny_Assign_Name (h.use ok S fun v s₁ nx₁ av H₁ a S₁ c' d ⟨t, o, v₀, e1, h1, h2, q⟩ => by
    subst e1; obtain rfl := d.ofRef
    obtain ⟨ob, hm, hob⟩ := S₁.obj _ _ h1
    obtain ⟨rfl, _, _⟩ := hob.ofOpq
    refine storeX_C (g := fun o' => nx₁.turn c o') S₁.F (S₁.focus hm) hc (.head fun p hp => of_decide_eq_true (List.mem_filter.mp hp).2) h2 (fun h' o' F' N' ho' => ?_) ok.kind hx
    obtain ⟨S', y⟩ := S₁.turnN (s' := { s₁ with heap := h' }) h1 hm F' N' rfl (ao' := .opq o') fun nx' z => .opq (by rintro ⟨vs, n, e⟩; rw [e] at ho'; cases ho') (by obtain ⟨a1, a2, a3, a4⟩ := o'; dsimp only at ho'; subst ho'; rfl)
    exact ⟨a.trans ⟨h', _, rfl⟩, m, _, _, ε, _, S', c'.trans y, .next, q o' ho'⟩) hs
/-- script[:60] of a list below the frame -/
theorem e_slice60 {x : Str} {p ps pe pos : Pos} {k : Nat} {l : Addr} {vs : List Value} {ns : List Int} {Q : AV → Hp → Prop} (hv : ε.get x = some (.ref l)) (hx : f.env.kindOf x = some .local) (hl : f.h₀.IsList l vs.toArray) (hi : IntsAre vs ns) (hz : ns.length < 1000)
    (q : ∀ y, H y = none → Q (.ref y) (H.put y (.list (avi (ns.take 60))))) (hd : (x == ("__debug__" : Str)) = false := by decide) : E1 prog w f (.Subscript (.Name x p) (.Slice none (some (.Constant (.int 60) k pe)) none ps) pos) ε H Q := fun ok s m nx S => by
  obtain ⟨v, h1, h2⟩ := S.loc x _ hv
  obtain rfl := h2.ofRef
  refine Subscript_ (nameX_L S.F h1 ?_ ok.kind hx hd)
  refine wpAny_Slice ?_
  rw [evalPart_none]
  refine wpAny_pure ?_
  rw [evalPart_some]
  refine wpAny_Constant_int ?_
  refine wpAny_pure ?_
  have hl' : s.heap.IsList l vs.toArray := let ⟨o, ho, r⟩ := hl; ⟨o, S.F.keep _ _ ho, r⟩
  have e1 := hi.length
  refine slice_list (s := { s with toks := s.toks + 1 }) (lo := none) (hi := some 60) S.F S.N hl' .none (.int 60 _) (fun h' F' N' => ?_) (hsz := by rw [List.size_toArray, sizeLine_eq]; omega)
  have lt : ∀ p ∈ nx, p.1 < s.heap.objs.size + 1 := fun p hp => Nat.lt_succ_of_lt (Heap.lt_size (S.N p hp).1)
  have e2 : slicePick vs.toArray none (some 60) none = (vs.take 60).toArray := by have := slicePick_upto' vs.toArray 60; simpa using this
  rw [e2] at N'
  exact ⟨⟨h', _, rfl⟩, _, .ref _, _, S.new (s' := { s with heap := h', toks := s.toks + 1 }) F' N' rfl lt (.list (n := 0) (ints_VAll (hi.take 60))), .cons _ _, .ref _, q _ (S.fresh lt)⟩
/-- a turn of the comprehension over a range -/
noncomputable def Turn (prog : Program) (w : World) (f : Fm) (env : Addr → Env) (elt : PySem.Expr) (ε : En) (H : Hp) (Q : AV → Hp → Prop) : Prop :=
  ∀ own C s m nx, St prog w { f with own := own } s m nx ε H → wpAny (model prog w) f.A (eval elt (env C)) (PE prog w { f with own := own } s m nx ε Q) Bot s
noncomputable abbrev Fm.ow (f : Fm) (own : Led) : Fm := { f with own := own }
theorem St.ownSub {own own' : Led} (S : St prog w (f.ow own) s m nx ε H) (h : ∀ p ∈ own', p ∈ own) : St prog w (f.ow own') s m nx ε H := ⟨S.F, S.N, S.loc, S.obj, fun p hp => S.own p (h p hp)⟩
theorem St.grow {own : Led} {s' : Shared} (S : St prog w (f.ow own) s m nx ε H) {C : Addr} {oC : Obj} (hk : ∀ b o, s.heap.get? b = some o → s'.heap.get? b = some o) (hC : s'.heap.get? C = some oC) (hn : s.heap.get? C = none) :
    St prog w (f.ow ((C, oC) :: own)) s' m ((C, oC) :: nx) ε H := by
  have hCL : C ≠ f.L := fun e => by
    obtain ⟨o, es, ep, h, _⟩ := S.F.ns
    have h : s.heap.get? f.L = some o := h
    rw [← e, hn] at h; cases h
  have hC0 : f.h₀.get? C = none := by
    cases q : f.h₀.get? C with
    | none => rfl
    | some o => have := S.F.keep C o q; rw [hn] at this; cases this
  have hH : H C = none := by
    cases q : H C with
    | none => rfl
    | some o => obtain ⟨ob, h1, _⟩ := S.obj _ _ q; have := (S.N _ h1).1; dsimp only at this; rw [hn] at this; cases this
  refine ⟨S.F.keeps hk, fun p hp => ?_, fun x av e => let ⟨v, h1, h2⟩ := S.loc x av e; ⟨v, h1, h2.ext (.cons _ _)⟩, S.obj.ext fun _ h => .tail _ h, fun p hp => ?_⟩
  · rcases List.mem_cons.mp hp with rfl | hp
    · exact ⟨hC, hCL, hC0⟩
    · exact ⟨hk _ _ (S.N p hp).1, (S.N p hp).2⟩
  · rcases List.mem_cons.mp hp with rfl | hp
    · exact ⟨.head _, hH⟩
    · exact ⟨.tail _ (S.own p hp).1, (S.own p hp).2⟩
theorem St.stepIn {own own' : Led} {s' : Shared} {I : Addr} {oI oI' : Obj} (S : St prog w (f.ow own) s m nx ε H) (hm : (I, oI) ∈ own) (ht : ¬ IsT oI) (hs : Heap.SameBut I s.heap s'.heap) (hI' : s'.heap.get? I = some oI') (h : ∀ p ∈ own', p = (I, oI') ∨ (p ∈ own ∧ p.1 ≠ I)) :
    ∃ nx', St prog w (f.ow own') s' m nx' ε H ∧ Ext nx nx' := by
  have S1 : St prog w ((f.ow (own.filter fun p => decide (p.1 ≠ I))).holds (I, oI)) s m nx ε H := S.ownSub fun p hp => by
    rcases List.mem_cons.mp hp with rfl | hp
    · exact hm
    · exact (List.mem_filter.mp hp).1
  obtain ⟨nx', S2, x⟩ := S1.stepHeld (s' := s') ht (fun p hp => of_decide_eq_true (List.mem_filter.mp hp).2) hs hI'
  refine ⟨nx', S2.ownSub (own := (I, oI') :: own.filter fun p => decide (p.1 ≠ I)) (f := f) fun p hp => ?_, x⟩
  rcases h p hp with rfl | ⟨h1, h2⟩
  · exact .head _
  · exact .tail _ (List.mem_filter.mpr ⟨h1, decide_eq_true h2⟩)
end
end Mine
set_option Elab.async false
set_option linter.unusedVariables false
set_option maxRecDepth 100000
namespace Mine
open PySem PySem.W PySem.Calls PySem.Spec PyProof.Rows
section
variable {prog : Program} {w : World} {f : Fm} {ε : En} {H : Hp} {T : Tp} {τ : Ts}
theorem turn_term {p p1 p2 pos : Pos} {k : Nat} {scope : Scope} {c : Addr} {o : Obj} {cl : List (Str × Addr)} {Q : AV → Hp → Prop} (ok : f.Ok w) (K : T.Ok H τ) (hc : cl.lookup ("tape" : Str) = some c) (hH : H c = some (.opq o)) (ho : o.data = .cell (some (.ref T.t)))
    (hk1 : ∀ C, (compEnvC scope cl C f.env).scope.kind = .function) (hk2 : ∀ C, (compEnvC scope cl C f.env).kindOf "tape" = some .cell) (hk3 : ∀ C, (compEnvC scope cl C f.env).kindOf "_law_term" = some .globalImplicit) (hr : 11 ≤ f.r)
    (q : ∀ (t : Tm) τ', t.low → t.size < 8 → T.Ok H τ' → Q t.enc (T.put H τ')) :
    Turn prog w f (fun C => compEnvC scope cl C f.env) (.Call (.Name "_law_term" p) [.Name "tape" p1, .Constant (.int 2) k p2] [] pos) ε (T.put H τ) Q := fun own C s m nx S => by
  have ok' : (f.ow own).Ok w := ⟨ok.B, ok.X, ok.T, ok.frames, ok.hh, ok.kind, ok.dep, ok.un⟩
  refine Call_ (Name_function_global (hk1 C) (hk3 C) (loadGlobal_global (env := compEnvC scope cl C f.env) ((topRead_of ok.T).g.keeps S.F.keep) (mg_of ok.X (topRead_of ok.T).g g_term) ?_) (by decide)) (by rfl)
  refine callWith_K (h₀ := f.h₀) ok.X k_term ?_ (by rfl) (by rfl)
  refine spliced_more ?_ (by rfl)
  obtain ⟨ob, hm, hob⟩ := S.obj c _ (K.sub _ _ hH)
  obtain ⟨rfl, _, _⟩ := hob.ofOpq
  refine wpAny_Name (wpAny_loadName_cell (v := .ref T.t) (hk1 C) (hk2 C) hc ⟨ob, (S.N _ hm).1, ho⟩ ?_) (by decide)
  refine spliced_more ?_ (by rfl)
  refine wpAny_Constant_int ?_
  refine spliced_none ?_
  have S' : St prog w (f.ow own) { s with toks := s.toks + 1 } m nx ε (T.put H τ) := S.heapEq rfl
  refine ⟨S'.X ok', ?_⟩
  have ct : CV prog w (f.ow own) (.ref 456) [.ref T.t, .int 2] ε (T.put H τ) Q := cv_def (term_ok 2 K (Nat.le_refl 2) q) hr
  exact wpAny_mono (ct ok' _ m nx _ S' (.cons (.ref T.t) (.cons (.int 2 _) .nil))) (fun v s' y => y.pre (.toks _ _) (.refl _)) fun _ _ z => z
end
end Mine
set_option Elab.async false
set_option linter.unusedVariables false
set_option maxRecDepth 100000
namespace Mine
open PySem PySem.W PySem.Calls PySem.Spec PyProof.Rows
noncomputable def lawStmt : Stmt := (PySem.Challenge.pw_sa0152_01.main.body.getLast?).getD (.Pass ⟨0, 0, 0, 0⟩)
noncomputable def lawBody : List Stmt := match lawStmt with
  | .FunctionDef _ _ b _ _ _ _ _ _ _ => b
  | _ => []
noncomputable def lawScope : Scope := match lawStmt with
  | .FunctionDef _ _ _ _ _ _ s _ _ _ => s
  | _ => { kind := .function, names := [], isGenerator := false, isCoroutine := false, more := [] }
noncomputable abbrev Fm.law (f : Fm) (c : Addr) (n : Nat) : Fm := { f with name := "law", scope := lawScope, cl := [("tape", c)], own := [], r := n }
section
variable {f : Fm} {c : Addr} {n : Nat}
end
/-- two makers stand beside each other -/
theorem Mk.Ok.put4 {M : Mk} {P : Pl} {H : Hp} {σ : Sg} (K : M.Ok P H) {a1 a2 a3 a4 : Addr} {o1 o2 o3 o4 : AO} (h1 : M.put H σ a1 = none) (h2 : M.put H σ a2 = none) (h3 : M.put H σ a3 = none) (h4 : M.put H σ a4 = none)
    (n12 : a1 ≠ a2) (n13 : a1 ≠ a3) (n14 : a1 ≠ a4) (n23 : a2 ≠ a3) (n24 : a2 ≠ a4) (n34 : a3 ≠ a4) :
    M.Ok P ((((H.put a1 o1).put a2 o2).put a3 o3).put a4 o4) ∧ ((((M.put H σ).put a1 o1).put a2 o2).put a3 o3).put a4 o4 = M.put ((((H.put a1 o1).put a2 o2).put a3 o3).put a4 o4) σ := by
  obtain ⟨K1, e1⟩ := K.new o1 h1
  obtain ⟨K2, e2⟩ := K1.new (σ := σ) (a := a2) o2 (by rw [← e1, put_ne n12.symm]; exact h2)
  obtain ⟨K3, e3⟩ := K2.new (σ := σ) (a := a3) o3 (by rw [← e2, ← e1, put_ne n23.symm, put_ne n13.symm]; exact h3)
  obtain ⟨K4, e4⟩ := K3.new (σ := σ) (a := a4) o4 (by rw [← e3, ← e2, ← e1, put_ne n34.symm, put_ne n24.symm, put_ne n14.symm]; exact h4)
  exact ⟨K4, by rw [e1, e2, e3, e4]⟩
theorem Mk.Ok.pair {M M' : Mk} {P : Pl} {G : Hp} {σ τ : Sg} (K : M.Ok P G) (K' : M'.Ok P (M.put G σ)) : M.Ok P (M'.put G τ) ∧ M'.put (M.put G σ) τ = M.put (M'.put G τ) σ :=
  K.put4 K'.c K'.s K'.l K'.dx K'.n1 K'.n2 K'.n3 K'.n4 K'.n5 K'.n6
theorem Mk.none {M : Mk} {G : Hp} {σ : Sg} (σ' : Sg) {a : Addr} (h : M.put G σ a = none) : M.put G σ' a = none := by
  unfold Mk.put at h ⊢
  obtain ⟨h1, h⟩ := put_none h
  obtain ⟨h2, h⟩ := put_none h
  obtain ⟨h3, h⟩ := put_none h
  obtain ⟨h4, h⟩ := put_none h
  rw [put_ne h1, put_ne h2, put_ne h3, put_ne h4]; exact h
theorem Mk.Ok.other {M M' : Mk} {P : Pl} {G : Hp} {σ : Sg} (K : M.Ok P G) (K' : M'.Ok P (M.put G σ)) (hx : G M'.x = some (.inst 265 M'.dx)) (hp : PlanOk G M'.pl P) (σ' : Sg) : M'.Ok P (M.put G σ') :=
  ⟨K.sub _ _ hx, Mk.none σ' K'.dx, Mk.none σ' K'.c, Mk.none σ' K'.s, Mk.none σ' K'.l, K'.n1, K'.n2, K'.n3, K'.n4, K'.n5, K'.n6, hp.sub K.sub⟩
/-- what stands in the ground of the tape is turned -/
theorem Tp.Ok.turn {T : Tp} {H : Hp} {τ : Ts} (K : T.Ok H τ) {a : Addr} {o₀ : AO} (o : AO) (h : H a = some o₀) : T.Ok (H.put a o) τ ∧ (T.put H τ).put a o = T.put (H.put a o) τ := by
  have a1 : a ≠ T.t := fun z => by rw [z, K.ht] at h; cases h
  have a2 : a ≠ T.c := fun z => by rw [z, K.hc] at h; cases h
  refine ⟨⟨by rw [put_ne a1.symm]; exact K.ht, by rw [put_ne a2.symm]; exact K.hc, K.ne, K.len⟩, ?_⟩
  unfold Tp.put
  rw [put_comm a2.symm, put_comm a1.symm]
section
variable {prog : Program} {w : World} {f : Fm} {ε : En} {H : Hp} {T : Tp} {τ : Ts}
/-- the tape as a cell of the frame -/
structure TapeAt (f : Fm) (H : Hp) (T : Tp) (c : Addr) : Prop where
  cl : f.cl.lookup ("tape" : Str) = some c
  at_ : ∃ o, H c = some (.opq o) ∧ o.data = .cell (some (.ref T.t))
theorem TapeAt.sub {H' : Hp} {c : Addr} (h : TapeAt f H T c) (k : Sub H H') : TapeAt f H' T c := ⟨h.cl, let ⟨o, a, b⟩ := h.at_; ⟨o, k _ _ a, b⟩⟩
theorem e_tape {c : Addr} {pos : Pos} {Q : AV → Hp → Prop} (h : TapeAt f H T c) (K : T.Ok H τ) (hx : f.env.kindOf "tape" = some .cell) (q : Q (.ref T.t) (T.put H τ)) : E1 prog w f (.Name "tape" pos) ε (T.put H τ) Q := by
  obtain ⟨o, a, b⟩ := h.at_
  exact e_cell h.cl (K.sub _ _ a) b hx q
theorem e_digitC {c : Addr} {p pp pos pi : Pos} {i : Nat} {lim : Int} {Q : AV → Hp → Prop} (h : TapeAt f H T c) (K : T.Ok H τ) (hx : f.env.kindOf "tape" = some .cell) (hg : f.env.kindOf "_law_digit" = some .globalImplicit) (hr : 8 ≤ f.r) (h0 : 0 < lim) (h1 : lim.natAbs.log2 < 9000)
    (q : ∀ (fig : Int) τ', 0 ≤ fig → fig < lim → T.Ok H τ' → Q (.int fig) (T.put H τ')) : E1 prog w f (.Call (.Name "_law_digit" p) [.Name "tape" pp, .Constant (.int lim) i pi] [] pos) ε (T.put H τ) Q :=
  e_call g_digit k_digit hg (es_cons (e_tape h K hx (es_cons (e_int (es_nil (cv_def (digit_ok K h0 h1 q) hr))))))
theorem e_termC {c : Addr} {p pp pos pi : Pos} {i : Nat} {Q : AV → Hp → Prop} (h : TapeAt f H T c) (K : T.Ok H τ) (hx : f.env.kindOf "tape" = some .cell) (hg : f.env.kindOf "_law_term" = some .globalImplicit) (hr : 11 ≤ f.r)
    (q : ∀ (t : Tm) τ', t.low → t.size < 8 → T.Ok H τ' → Q t.enc (T.put H τ')) : E1 prog w f (.Call (.Name "_law_term" p) [.Name "tape" pp, .Constant (.int 2) i pi] [] pos) ε (T.put H τ) Q :=
  e_call g_term k_term hg (es_cons (e_tape h K hx (es_cons (e_int (es_nil (cv_def (term_ok 2 K (Nat.le_refl 2) q) hr))))))
end
end Mine
set_option Elab.async false
set_option linter.unusedVariables false
set_option maxRecDepth 100000
namespace Mine
open PySem PySem.W PySem.Calls PySem.Spec PyProof.Rows
theorem addT_mono : ∀ (l : List Tm) (c : Nat → Nat) (j : Nat), c j ≤ addT c l j
  | [], _, _ => Nat.le_refl _
  | t :: r, c, j => by
    have h := addT_mono r (add1 c t) j
    have h1 : c j ≤ add1 c t j := by unfold add1; omega
    exact Nat.le_trans h1 h
theorem add1_mem {c : Nat → Nat} {t : Tm} {j : Nat} (h : j ∈ t.vars) : add1 c t j = c j + 1 := by
  unfold add1
  rw [if_pos (by simpa using h)]
theorem addT_mem : ∀ (l : List Tm) (c : Nat → Nat) (j : Nat) (t : Tm), t ∈ l → j ∈ t.vars → c j + 1 ≤ addT c l j
  | a :: r, c, j, t, ht, hj => by
    rcases List.mem_cons.mp ht with rfl | h
    · have := addT_mono r (add1 c t) j
      rw [add1_mem hj] at this
      exact this
    · have h1 : c j ≤ add1 c a j := by unfold add1; omega
      have := addT_mem r (add1 c a) j t h hj
      exact Nat.le_trans (by omega) this
theorem addT_twice {l k : List Tm} {t : Tm} {j : Nat} (hj : j ∈ t.vars) : 2 ≤ addT (fun _ => 0) (l ++ t :: t :: k) j := by
  rw [addT_append]
  have h := addT_mono k (add1 (add1 (addT (fun _ => 0) l) t) t) j
  rw [add1_mem hj, add1_mem hj] at h
  exact Nat.le_trans (by omega) h
theorem ssum_le {n : Nat} : ∀ (l : List Tm), (∀ t ∈ l, t.size ≤ n) → ssum l ≤ l.length * n
  | [], _ => by simp [ssum]
  | t :: r, h => by
    rw [ssum_cons, List.length_cons, Nat.succ_mul]
    have h1 := h t (.head _)
    have h2 := ssum_le r fun u hu => h u (.tail _ hu)
    omega
section
variable {prog : Program} {w : World} {f : Fm} {ε : En} {H : Hp} {P : Pl}
theorem mk284 : makesIn (KK w) 284 = true := by kernel_rfl
theorem in284 : findIn (KK w) (.ref 284) "__init__" = some (some (.ref 281)) := by kernel_rfl
theorem fn281 : isFn (KK w) (.ref 281) = true := by kernel_rfl
theorem g_kc : nsIn (KK w) mainGlobals "KernelClause" = some (some (.ref 284)) := by kernel_rfl
theorem k_kc : keepIn (KK w) (.ref 284) = true := by kernel_rfl
theorem g_classify : nsIn (KK w) mainGlobals "classify" = some (some (.ref 442)) := by kernel_rfl
theorem k_classify : keepIn (KK w) (.ref 442) = true := by kernel_rfl
theorem g_begun : nsIn (KK w) mainGlobals "_law_begun" = some (some (.ref 477)) := by kernel_rfl
theorem k_begun : keepIn (KK w) (.ref 477) = true := by kernel_rfl
theorem g_itself : nsIn (KK w) mainGlobals "_law_itself_right" = some (some (.ref 484)) := by kernel_rfl
theorem k_itself : keepIn (KK w) (.ref 484) = true := by kernel_rfl
theorem g_call1 : nsIn (KK w) mainGlobals "F_CALL1" = some (some (.int 24 200)) := by kernel_rfl
theorem g_call2 : nsIn (KK w) mainGlobals "F_CALL2" = some (some (.int 25 202)) := by kernel_rfl
theorem g_tuple : nsIn (KK w) mainGlobals "tuple" = some none := by kernel_rfl
theorem itself_at {M : Mk} {σ : Sg} {t : Tm} {pl : Addr} {Q : AV → Hp → Prop} (e : M.pl = pl) (K : M.Ok P H) (hd : t.dom P) (hv : ∀ k ∈ t.vars, P.vd k = false ∧ (0 < P.sl k ↔ P.pm k = true)) (hg : σ.good) (hl : σ.code.length < 500000) (hz : t.size < 8)
    (q : Q (.bool true) (M.put H (dueAll P σ t.vars))) : Ct prog w 484 20 [.ref M.x, .ref pl, t.enc] (M.put H σ) Q := by
  subst e; exact itself_ok K hd hv hg hl hz q
/-- the checks behind the plan -/
structure Both (M M' : Mk) (P : Pl) (G : Hp) : Prop where
  one : ∀ τ, M.Ok P (M'.put G τ)
  two : ∀ σ, M'.Ok P (M.put G σ)
  eq : ∀ σ τ, M'.put (M.put G σ) τ = M.put (M'.put G τ) σ
theorem checks_ok {c : Addr} {n : Nat} {M M' : Mk} {G : Hp} {σ : Sg} {itself left right : Tm} {pl : Addr} {Q : FV → En → Hp → Prop} (hn : 20 ≤ n) (B : Both M M' P G) (e1 : M.pl = pl) (e2 : M'.pl = pl)
    (hd : itself.dom P) (hl : left.dom P) (hr : right.dom P) (hv : ∀ k ∈ itself.vars, P.vd k = false ∧ (0 < P.sl k ↔ P.pm k = true)) (hg : σ.good) (hc : σ.code.length < 400000) (z1 : itself.size < 8) (z2 : left.size < 8) (z3 : right.size < 8)
    (h1 : ε.get "once" = some (.ref M.x)) (h2 : ε.get "turned" = some (.ref M'.x)) (h3 : ε.get "plan" = some (.ref pl)) (h4 : ε.get "itself" = some itself.enc) (h5 : ε.get "left" = some left.enc) (h6 : ε.get "right" = some right.enc)
    (q : ∀ ε' H', Q (.ret (.bool true)) ε' H') : S1 prog w (f.law c n) (execs (lawBody.drop 11) (f.law c n).env) ε (M'.put (M.put G σ) σ) Q := by
  have r20 : 20 ≤ (f.law c n).r := hn
  refine s_cons (s_if (T1.mono (Q := fun b H₁ => b = false ∧ H₁ = M'.put (M.put G (dueAll P σ itself.vars)) (dueAll P σ itself.vars)) ?_ fun b H₁ ⟨eb, eH⟩ => ⟨fun hb => ?_, fun hb => ?_⟩))
  · rw [B.eq]
    refine t_or (t_not (t_val (e_call g_itself k_itself rfl (es_cons (e_local h1 rfl (es_cons (e_local h3 rfl (es_cons (e_local h4 rfl (es_nil (cv_def (itself_at e1 (B.one _) hd hv hg (by omega) z1 ?_) r20)))))))))))
    refine .inl ⟨true, rfl, OrP.mk (fun hb => by cases hb) (fun _ => ?_)⟩
    rw [← B.eq]
    refine t_or (t_not (t_val (e_call g_itself k_itself rfl (es_cons (e_local h2 rfl (es_cons (e_local h3 rfl (es_cons (e_local h4 rfl (es_nil (cv_def (itself_at e2 (B.two _) hd hv hg (by omega) z1 ?_) r20)))))))))))
    refine .inl ⟨true, rfl, OrP.mk (fun hb => by cases hb) (fun _ => ?_)⟩
    exact t_or0 ⟨rfl, rfl⟩
  · rw [eb] at hb; cases hb
  subst eH
  refine s_nil ?_
  have hdl := dueAll_len P itself.vars σ
  have hvl := vars_len itself
  have hgd := good_due (P := P) itself.vars σ hg
  generalize dueAll P σ itself.vars = σ1 at *
  refine s_cons (s_if (t_val (e_call g_str k_str rfl (es_cons (e_local h5 rfl (es_cons (e_local h6 rfl (es_nil (cv_def (strangers_ok 8 (by omega) (by decide) ?_) (Nat.le_trans (by decide) r20))))))))))
  refine .inl ⟨_, rfl, fun hb => ?_, fun hb => ?_⟩
  · exact s_cons (s_return (e_bool (q _ _)))
  refine s_nil ?_
  rw [B.eq]
  refine s_cons (s_expr (e_mcall (B.one _) h1 rfl me_unify rfl (es_cons (e_local h5 rfl (es_cons (e_local h6 rfl (es_nil (cv_def (unify_ok (B.one _) hl hr (by omega) (by omega) ⟨rfl, ?_⟩) (Nat.le_trans (by decide) r20)))))))))
  rw [← B.eq]
  refine s_cons (s_expr (e_mcall (B.two _) h2 rfl me_unify rfl (es_cons (e_local h6 rfl (es_cons (e_local h5 rfl (es_nil (cv_def (unify_ok (B.two _) hr hl (by omega) (by omega) ⟨rfl, ?_⟩) (Nat.le_trans (by decide) r20)))))))))
  rw [unify_swap1 P σ1 hb]
  have hg2 := good_unify (P := P) (left.size + right.size) σ1 [(left, right)] hgd
  generalize unifyRun P (left.size + right.size) σ1 [(left, right)] = σ2 at *
  have b1 := B.one σ2
  have b2 := B.two σ2
  have ee := B.eq σ2 σ2
  have px : M'.put (M.put G σ2) σ2 M.x = some (.inst 265 M.dx) := by rw [ee]; exact b1.px
  have pdx : M'.put (M.put G σ2) σ2 M.dx = some (.ns (M.fs σ2.nxt)) := by rw [ee]; exact b1.pdx
  have pc : M'.put (M.put G σ2) σ2 M.c = some (.list σ2.code) := by rw [ee]; exact b1.pc
  have ps : M'.put (M.put G σ2) σ2 M.s = some (.set true σ2.seen) := by rw [ee]; exact b1.ps
  have pll : M'.put (M.put G σ2) σ2 M.l = some (.set false σ2.loc) := by rw [ee]; exact b1.pl
  have px' := b2.px (σ := σ2)
  have pdx' := b2.pdx (σ := σ2)
  have pc' := b2.pc (σ := σ2)
  have ps' := b2.ps (σ := σ2)
  have pll' := b2.pl (σ := σ2)
  generalize M'.put (M.put G σ2) σ2 = D at *
  have r6 : 6 ≤ (f.law c n).r := Nat.le_trans (by decide) r20
  refine s_cons (s_if (T1.mono (Q := fun b H₁ => b = false ∧ H₁ = D) ?_ fun b H₁ ⟨eb, eH⟩ => ⟨fun hb => ?_, fun hb => ?_⟩))
  · refine t_or (t_cmp r6 (e_attr (e_local h1 rfl ⟨M.x, 265, M.dx, M.fs σ2.nxt, _, rfl, px, pdx, at265_code, rfl, e_attr (e_local h2 rfl ⟨M'.x, 265, M'.dx, M'.fs σ2.nxt, _, rfl, px', pdx', at265_code, rfl, _, c_neL pc pc' hg2 hg2, fun hc => ?_, fun hc => ?_⟩)⟩)))
    · rw [eqvAll_self] at hc; cases hc
    refine t_or (t_cmp r6 (e_attr (e_local h1 rfl ⟨M.x, 265, M.dx, M.fs σ2.nxt, _, rfl, px, pdx, at265_next, rfl, e_attr (e_local h2 rfl ⟨M'.x, 265, M'.dx, M'.fs σ2.nxt, _, rfl, px', pdx', at265_next, rfl, _, c_ne _ _, fun hc => ?_, fun hc => ?_⟩)⟩)))
    · simp at hc
    exact t_or0 ⟨rfl, rfl⟩
  · rw [eb] at hb; cases hb
  subst eH
  refine s_nil (s_cons (s_return (e_and (e_cmp r6 (e_attr (e_local h1 rfl ⟨M.x, 265, M.dx, M.fs σ2.nxt, _, rfl, px, pdx, at265_seen, rfl, e_attr (e_local h2 rfl ⟨M'.x, 265, M'.dx, M'.fs σ2.nxt, _, rfl, px', pdx', at265_seen, rfl, _, c_setEq ps ps', _, rfl, fun hc => (by cases hc), fun _ => ?_⟩)⟩))))))
  exact e_one (e_cmp r6 (e_attr (e_local h1 rfl ⟨M.x, 265, M.dx, M.fs σ2.nxt, _, rfl, px, pdx, at265_local, rfl, e_attr (e_local h2 rfl ⟨M'.x, 265, M'.dx, M'.fs σ2.nxt, _, rfl, px', pdx', at265_local, rfl, _, c_setEq pll pll', q _ _⟩)⟩)))
end
end Mine
set_option Elab.async false
set_option linter.unusedVariables false
set_option maxRecDepth 100000
namespace Mine
open PySem PySem.W PySem.Calls PySem.Spec PyProof.Rows
section
variable {prog : Program} {w : World} {f : Fm} {ε : En} {H : Hp}
theorem tail_ok {c : Addr} {n : Nat} {heads : List Tm} {calls : List Gl} {itself left right : Tm} {hd g : Addr} {Q : FV → En → Hp → Prop} (hn : 20 ≤ n)
    (hhd : H hd = some (.list (heads.map Tm.enc))) (hga : H g = some (.list ((Gl.uni itself itself :: Gl.uni left right :: calls).map Gl.enc))) (hhl : heads.length ≤ 3) (hcl : calls.length ≤ 10)
    (l1 : ∀ t ∈ heads, t.low ∧ t.size < 8) (l2 : ∀ t ∈ glTs calls, t.low ∧ t.size < 8) (li : itself.low ∧ itself.size < 8) (ll : left.low ∧ left.size < 8) (lr : right.low ∧ right.size < 8)
    (h1 : ε.get "heads" = some (.ref hd)) (h2 : ε.get "itself" = some itself.enc) (h3 : ε.get "left" = some left.enc) (h4 : ε.get "right" = some right.enc) (h5 : ε.get "goals_" = some (.ref g))
    (q : ∀ ε' H', Q (.ret (.bool true)) ε' H') : S1 prog w (f.law c n) (execs (lawBody.drop 7) (f.law c n).env) ε H Q := by
  have r20 : 20 ≤ (f.law c n).r := hn
  refine s_cons (s_assign rfl (e_call (fa := .ref 284) g_kc k_kc rfl (es_cons (e_global g_call1 (.int _ _) rfl (es_cons (e_callT g_tuple rfl (by decide) rfl (es_cons (e_local h1 rfl (es_nil (cv_tuple hhd (by simp; omega) (es_cons (e_local h5 rfl (es_cons (e_int (es_nil ?_)))))))))))))))
  refine cv_make (n := 1) mk284 in284 fn281 (Nat.le_trans (by decide) r20) fun x dx hx hdx hne => kc_ok hx hdx hne ⟨rfl, ?_⟩
  have sub1 : Sub H ((H.put x (.inst 284 dx)).put dx (.ns [("functor", .int 24), ("args", .tup (heads.map Tm.enc)), ("goals", .ref g), ("count", .int 5)])) := (Sub.fresh hx).trans (Sub.fresh (by rw [put_ne hne.symm]; exact hdx))
  have k1 : ((H.put x (.inst 284 dx)).put dx (.ns [("functor", .int 24), ("args", .tup (heads.map Tm.enc)), ("goals", .ref g), ("count", .int 5)])) x = some (.inst 284 dx) := by rw [put_ne hne, put_get]
  have k2 : ((H.put x (.inst 284 dx)).put dx (.ns [("functor", .int 24), ("args", .tup (heads.map Tm.enc)), ("goals", .ref g), ("count", .int 5)])) dx = some (.ns [("functor", .int 24), ("args", .tup (heads.map Tm.enc)), ("goals", .ref g), ("count", .int 5)]) := put_get _ _ _
  have k3 := sub1 _ _ hga
  generalize (H.put x (.inst 284 dx)).put dx (.ns [("functor", .int 24), ("args", .tup (heads.map Tm.enc)), ("goals", .ref g), ("count", .int 5)]) = H1 at *
  have hgl : ∀ t ∈ glTs (Gl.uni itself itself :: Gl.uni left right :: calls), t.low ∧ t.size < 100 := by
    intro t ht
    have e : glTs (Gl.uni itself itself :: Gl.uni left right :: calls) = itself :: itself :: left :: right :: glTs calls := rfl
    rw [e] at ht
    simp only [List.mem_cons] at ht
    rcases ht with rfl | rfl | rfl | rfl | ht
    · exact ⟨li.1, by omega⟩
    · exact ⟨li.1, by omega⟩
    · exact ⟨ll.1, by omega⟩
    · exact ⟨lr.1, by omega⟩
    · exact ⟨(l2 t ht).1, by have := (l2 t ht).2; omega⟩
  refine s_cons (s_assign rfl (e_call g_classify k_classify rfl (es_cons (e_local rfl rfl (es_nil (cv_def (classify_ok (gs := Gl.uni itself itself :: Gl.uni left right :: calls) k1 k2 rfl rfl k3 (by simp; omega) (fun t ht => ⟨(l1 t ht).1, by have := (l1 t ht).2; omega⟩) hgl fun pl P H2 sub2 hP hdom hvd hpm => ?_) (Nat.le_trans (by decide) r20)))))))
  have k1' := sub2 _ _ k1
  have k2' := sub2 _ _ k2
  have dm : ∀ t ∈ heads ++ glTs (Gl.uni itself itself :: Gl.uni left right :: calls), t.dom P := fun t ht j hj => hdom j (by have := addT_mem _ (fun _ => 0) j t ht hj; omega)
  have dh : ∀ t ∈ heads, t.dom P := fun t ht => dm t (List.mem_append.mpr (.inl ht))
  have eg : glTs (Gl.uni itself itself :: Gl.uni left right :: calls) = itself :: itself :: left :: right :: glTs calls := rfl
  have di : itself.dom P := dm _ (List.mem_append.mpr (.inr (by rw [eg]; exact .head _)))
  have dl : left.dom P := dm _ (List.mem_append.mpr (.inr (by rw [eg]; exact .tail _ (.tail _ (.head _)))))
  have dr : right.dom P := dm _ (List.mem_append.mpr (.inr (by rw [eg]; exact .tail _ (.tail _ (.tail _ (.head _))))))
  have hv : ∀ k ∈ itself.vars, P.vd k = false ∧ (0 < P.sl k ↔ P.pm k = true) := fun k hk => ⟨hvd k (by rw [eg]; exact addT_twice hk), hpm k (di k hk)⟩
  have hss := ssum_le (n := 8) heads fun t ht => by have := (l1 t ht).2; omega
  refine s_cons (s_assign rfl (e_call g_begun k_begun rfl (es_cons (e_local rfl rfl (es_cons (e_local rfl rfl (es_nil (cv_def (begun_ok (ts := heads) k1' k2' rfl rfl hP dh (by omega) fun M eM hMx K => ?_) (Nat.le_trans (by decide) r20)))))))))
  have sub3 : Sub H2 (M.put (H2.put M.x (.inst 265 M.dx)) (begunRun P heads).1) := (Sub.fresh hMx).trans K.sub
  have hPG : PlanOk (H2.put M.x (.inst 265 M.dx)) pl P := hP.sub (Sub.fresh hMx)
  refine s_cons (s_assign rfl (e_call g_begun k_begun rfl (es_cons (e_local rfl rfl (es_cons (e_local rfl rfl (es_nil (cv_def (begun_ok (ts := heads) (sub3 _ _ k1') (sub3 _ _ k2') rfl rfl (hP.sub sub3) dh (by omega) fun M' eM' hMx' K' => ?_) (Nat.le_trans (by decide) r20)))))))))
  have hgd := good_begunRun P heads
  have hbl := begun_len P heads (sg0, 0)
  have hbl' : (begunRun P heads).1.code.length ≤ 6 * ssum heads := by have e : (sg0, 0).1.code.length = 0 := rfl; unfold begunRun; omega
  generalize (begunRun P heads).1 = σ at *
  generalize H2.put M.x (.inst 265 M.dx) = G at *
  obtain ⟨K1, e1⟩ := K.new (.inst 265 M'.dx) hMx'
  rw [e1] at K' ⊢
  have hMG : G M'.x = none := K.sub.none hMx'
  have hx' : (G.put M'.x (.inst 265 M'.dx)) M'.x = some (.inst 265 M'.dx) := put_get _ _ _
  have hp' : PlanOk (G.put M'.x (.inst 265 M'.dx)) M'.pl P := by rw [eM']; exact hPG.sub (Sub.fresh hMG)
  generalize G.put M'.x (.inst 265 M'.dx) = G1 at *
  have two := K1.other K' hx' hp'
  have B : Both M M' P G1 := ⟨fun τ => (K1.pair (τ := τ) K').1, two, fun σ τ => (K1.pair (two σ)).2⟩
  exact checks_ok hn B eM eM' di dl dr hv hgd (by omega) li.2 ll.2 lr.2 rfl rfl rfl (by exact h2) (by exact h3) (by exact h4) q
end
end Mine
set_option Elab.async false
set_option linter.unusedVariables false
set_option maxRecDepth 100000
namespace Mine
open PySem PySem.W PySem.Calls PySem.Spec PyProof.Rows
section
variable {prog : Program} {w : World} {f : Fm} {ε : En} {H : Hp} {s : Shared} {m : Str → Option Value} {nx : Led}
noncomputable def itO (i n : Nat) : Obj := { cls := .type "range_iterator", data := .fields #[rawInt ((i : Nat) : Int), rawInt ((n : Int) - (i : Nat)), rawInt 1] }
theorem s_comp {elt iter : PySem.Expr} {x y : Str} {px py pos spos : Pos} {scope : Scope} {cl : List (Str × Addr)} {Q : FV → En → Hp → Prop} (hown : f.own = [])
    (hsw : swapsWith (.ListComp elt [⟨.Name x px, iter, [], 0⟩] scope pos) (some (.Name y py)) spos.line f.env = pure true)
    (hclos : closureFor scope f.env = pure cl) (hcell : ∀ y ∈ scope.names, y.2 ≠ .cell) (hkind : scope.kind = .function)
    (hnames : ∀ y ∈ scope.names, y.2 = .local → scope.names.lookup y.1 = some .local) (hx : scope.names.lookup x = some .local) (hy : f.env.kindOf y = some .local)
    (h : E1 prog w f iter ε H fun v H₁ => ∃ (r : Addr) (n : Nat) (Inv : Nat → List AV → Hp → Prop), v = .ref r ∧ H₁ r = some (.rng n) ∧ n < 1000 ∧ Inv 0 [] H₁ ∧
      (∀ i ys H, i < n → Inv i ys H → Turn prog w f (fun C => compEnvC scope cl C f.env) elt ε H fun v H' => Inv (i + 1) (ys ++ [v]) H') ∧ ∀ ys H, Inv n ys H → ∀ z, H z = none → Q .next ((y, .ref z) :: ε) (H.put z (.list ys)))
    (hs : ∀ x, foldedSetIterable iter f.env x = pure x := by intro _; rfl) : S1 prog w f (exec (.Assign [.Name y py] (.ListComp elt [⟨.Name x px, iter, [], 0⟩] scope pos) spos) f.env) ε H Q := fun ok s m nx S => by
  rw [exec_Assign_Name_used _ _ _ _ hsw]
  refine wpAny_bind (wpAny_standAt (wpAny_bind ?_))
  show wpAny _ f.A (do let _ ← comprehension (.ListComp elt [⟨.Name x px, iter, [], 0⟩] scope pos) scope f.env _ (newList []) false (eval iter f.env) (some (assign (.Name y py) f.env))) _ _ s
  refine wpAny_bind (wpAny_mono (wpAny_comprehension_free (use := some (assign (.Name y py) f.env)) (Q := fun _ s' => PS prog w f s nx Q .next s') rfl hs hclos hkind hnames (h.use ok S fun v s₁ nx₁ av H₁ a S₁ c d ⟨r, n, Inv, e1, h1, hn, i0, turn, fin⟩ => ?_)) (fun _ s' hq => wpAny_pure (wpAny_pure hq)) fun _ _ e => e)
  subst e1; obtain rfl := d.ofRef
  obtain ⟨ob, hm, ho⟩ := S₁.obj _ _ h1
  obtain ⟨t, u, v, rfl⟩ := ho.ofRng
  focus
    have sz : Builtin.Range.rangeSize 0 (n : Int) 1 = (n : Int) := by
      unfold Builtin.Range.rangeSize
      rw [if_pos (by decide : (1 : Int) > 0)]
      split <;> omega
    refine wpAny_pyIter_range (a := 0) (b := (n : Int)) (c := 1) (t := t) (u := u) (v := v) (S₁.mem hm) (small_one (by omega) (by omega) (by omega) (by omega)) ?_
    rw [sz]
    have hf : f = f.ow [] := by cases f; dsimp only at hown; subst hown; rfl
    have S1' : St prog w (f.ow []) s₁ m nx₁ ε H₁ := hf ▸ S₁
    have S₂ := S1'.grow (s' := { s₁ with heap := s₁.heap.push { cls := .type "range_iterator", data := .fields #[rawInt 0, rawInt n, rawInt 1] } }) (C := s₁.heap.objs.size) (fun b o e => Heap.get?_push_of_some _ e) (Heap.get?_push_size _ rfl) (by
      cases q : s₁.heap.get? s₁.heap.objs.size with
      | none => rfl
      | some o => exact absurd (Heap.lt_size q) (Nat.lt_irrefl _))
    refine wpAny_newObj_type ?_
    have S₃ := S₂.grow (s' := { s₁ with heap := (s₁.heap.push { cls := .type "range_iterator", data := .fields #[rawInt 0, rawInt n, rawInt 1] }).push { cls := .type "list", data := .seq ([] : List Value).toArray } }) (C := (s₁.heap.push { cls := .type "range_iterator", data := .fields #[rawInt 0, rawInt n, rawInt 1] }).objs.size) (fun b o e => Heap.get?_push_of_some _ e) (Heap.get?_push_size _ rfl) (by
      cases q : (s₁.heap.push { cls := .type "range_iterator", data := .fields #[rawInt 0, rawInt n, rawInt 1] }).get? (s₁.heap.push { cls := .type "range_iterator", data := .fields #[rawInt 0, rawInt n, rawInt 1] }).objs.size with
      | none => rfl
      | some o => exact absurd (Heap.lt_size q) (Nat.lt_irrefl _))
    refine wpAny_newFunctionEnv hcell (by intro y hy; simp at hy) (fun h₁ hns₁ hsb₁ => ?_) hkind
    dsimp only at hns₁ hsb₁ ⊢
    generalize hID : s₁.heap.objs.size = I at *
    generalize hDD : (s₁.heap.push { cls := .type "range_iterator", data := .fields #[rawInt 0, rawInt n, rawInt 1] }).objs.size = D at *
    generalize hHD : (s₁.heap.push { cls := .type "range_iterator", data := .fields #[rawInt 0, rawInt n, rawInt 1] }).push { cls := .type "list", data := .seq ([] : List Value).toArray } = HD at *
    have ho1 : h₁.get? HD.objs.size = h₁.get? HD.objs.size := rfl
    obtain ⟨oC, hoC, hnsC⟩ := LCg.ns_obj hns₁
    have S₄ := S₃.grow (s' := { s₁ with heap := h₁, toks := s₁.toks + ([] : List (Str × Value)).length }) (C := HD.objs.size) (oC := oC) (fun b o e => by
      have hb : b ≠ HD.objs.size := Nat.ne_of_lt (Heap.lt_size e)
      exact (hsb₁.2 b hb).trans (Heap.get?_push_of_some _ e)) hoC (by
      cases q : HD.get? HD.objs.size with
      | none => rfl
      | some o => exact absurd (Heap.lt_size q) (Nat.lt_irrefl _))
    have cenv : ∀ (E : Env), E = compEnvC scope cl HD.objs.size f.env → True := fun _ _ => trivial
    have loop : ∀ s₃ : Shared, s₃ = { s₁ with heap := h₁, toks := s₁.toks + ([] : List (Str × Value)).length } →
        codeAny (model prog w) f.A (.compLoop (.ListComp elt [⟨.Name x px, iter, [], 0⟩] scope pos) 0 (.ref I) (.ref D) (compEnvC scope cl HD.objs.size f.env))
          (compPost (model prog w) f.A Bot (some (assign (.Name y py) f.env)) (fun _ s' => PS prog w f s nx Q .next s') (.ref D) HD.objs.size) s₃ := by
      rintro s₃ rfl
      generalize hC0 : HD.objs.size = C at *
      have szD : D = I + 1 := by rw [← hDD, Heap.size_push, hID]
      have szC : C = I + 1 + 1 := by rw [← hC0, ← hHD, Heap.size_push, Heap.size_push, hID]
      refine codeAny_compLoop_tests (fun k s' => ∃ i ys yav m' oC nx' H', i ≤ n ∧ k = n + 1 - i ∧ Same s s' ∧ St prog w (f.ow [(C, oC), (D, LCg.lst ys), (I, itO i n)]) s' m nx' ε H' ∧ Ext nx nx' ∧ LCg.NsObj oC m' ∧ VAll nx' ys yav ∧ ys.length = i ∧ Inv i yav H') ?_ (n + 1)
        ⟨0, [], [], _, oC, _, H₁, Nat.zero_le _, rfl, a.trans ⟨_, _, rfl⟩, by simpa [LCg.lst, itO] using S₄, c.trans ((Ext.cons _ _).trans ((Ext.cons _ _).trans (Ext.cons _ _))), hnsC, .nil, rfl, i0⟩
      intro k s' hh
      refine Exists.elim hh fun i hh1 => Exists.elim hh1 fun ys hh2 => Exists.elim hh2 fun yav hh3 => Exists.elim hh3 fun m' hh4 => Exists.elim hh4 fun oC hh5 => Exists.elim hh5 fun nx' hh6 => Exists.elim hh6 fun H' hh7 => and9 hh7 fun hi hq01 hsm S' x' hCo hv hyl hinv => ?_
      clear hh7 hh6 hh5 hh4 hh3 hh2 hh1 hh
      subst hq01
      have zC := (S'.N _ (S'.own _ (.head _)).1).1
      have zI := (S'.N _ (S'.own _ (.tail _ (.tail _ (.head _)))).1).1
      by_cases hlt : i < n
      · refine wpAny_pyNext_range_item (x := (i : Nat)) (left := (n : Int) - (i : Nat)) (step := 1) zI (by omega) fun h' k1 hs => ?_
        have e1 : ((i : Nat) : Int) + 1 = ((i + 1 : Nat) : Int) := by omega
        have e2 : (n : Int) - (i : Nat) - 1 = (n : Int) - ((i + 1 : Nat) : Int) := by omega
        rw [e1, e2] at k1
        have neCI : C ≠ I := by omega
        have neDI : D ≠ I := by omega
        have neCD : C ≠ D := by omega
        obtain ⟨nx2, S2, x2⟩ := S'.stepIn (own' := [(C, oC), (D, LCg.lst ys), (I, itO (i + 1) n)]) (s' := { s' with heap := h', toks := s'.toks + 1 }) (I := I) (.tail _ (.tail _ (.head _))) (by rintro ⟨vs, k, e⟩; have := congrArg Obj.cls e; simp [itO, LCg.lst] at this) hs k1 (fun p hp => by
          simp only [List.mem_cons, List.not_mem_nil, or_false] at hp
          rcases hp with rfl | rfl | rfl
          · exact .inr ⟨.head _, neCI⟩
          · exact .inr ⟨.tail _ (.head _), neDI⟩
          · exact .inl rfl)
        have zC2 := (S2.N _ (S2.own _ (.head _)).1).1
        refine wpAny_assign_Name (wpAny_storeName_local (lookup_relabel_local hx) (LCg.NsObj.ns hCo zC2) (fun h₃ hn₃ hs₃ => ?_) (by simp [compEnvC, relabel, hkind]))
        refine wpAny_tests_nil ?_
        simp only [if_true]
        obtain ⟨oC', hoC', hCo'⟩ := LCg.ns_obj hn₃
        obtain ⟨nx3, S3, x3⟩ := S2.stepIn (own' := [(C, oC'), (D, LCg.lst ys), (I, itO (i + 1) n)]) (s' := { s' with heap := h₃, toks := s'.toks + 1 + 1 }) (I := C) (.head _) (by
          rintro ⟨vs, k, e⟩
          obtain ⟨es, ep, hd, _⟩ := hCo
          rw [e] at hd; cases hd) hs₃ hoC' (fun p hp => by
          simp only [List.mem_cons, List.not_mem_nil, or_false] at hp
          rcases hp with rfl | rfl | rfl
          · exact .inl rfl
          · exact .inr ⟨.tail _ (.head _), Ne.symm neCD⟩
          · exact .inr ⟨.tail _ (.tail _ (.head _)), Ne.symm neCI⟩)
        refine wpAny_mono (turn i yav H' hlt hinv _ C _ m _ S3) (fun yv s₄ ⟨hsm4, nx4, av, H4, S4, x4, hyv, hinv4⟩ => ?_) fun _ _ z => z.elim
        have zD := (S4.N _ (S4.own _ (.tail _ (.head _))).1).1
        refine append_at (hsz := by rw [List.size_toArray, sizeLine_eq]; omega) zD fun h₅ hs₅ hD₅ => ?_
        obtain ⟨nx5, S5, x5⟩ := S4.stepIn (f := f) (own' := [(C, oC'), (D, LCg.lst (ys ++ [yv])), (I, itO (i + 1) n)]) (s' := { s₄ with heap := h₅ }) (I := D) (.tail _ (.head _)) (by rintro ⟨vs, k, e⟩; have := congrArg Obj.cls e; simp [itO, LCg.lst] at this) hs₅ (hD₅.trans (congrArg some (LCg.lst_snoc ys yv))) (fun p hp => by
          simp only [List.mem_cons, List.not_mem_nil, or_false] at hp
          rcases hp with rfl | rfl | rfl
          · exact .inr ⟨.head _, neCD⟩
          · exact .inl rfl
          · exact .inr ⟨.tail _ (.tail _ (.head _)), Ne.symm neDI⟩)
        exact ⟨n + 1 - (i + 1), by omega, i + 1, ys ++ [yv], yav ++ [av], _, oC', nx5, H4, hlt, rfl, hsm.trans (Same.trans ⟨_, _, rfl⟩ (hsm4.trans ⟨_, _, rfl⟩)), S5, x'.trans (x2.trans (x3.trans (x4.trans x5))), hCo', (hv.ext (x2.trans (x3.trans (x4.trans x5)))).append (.one (hyv.ext x5)), by simp [hyl], hinv4⟩
      · obtain rfl : i = n := by omega
        have neCI : C ≠ I := by omega
        have neDI : D ≠ I := by omega
        have neCD : C ≠ D := by omega
        refine wpAny_pyNext_range_end (x := (i : Nat)) (left := (i : Int) - (i : Nat)) (step := 1) ok.hh zI (by omega) fun h' hs => ?_
        have o1 := S'.own _ (.tail _ (.tail _ (.head _)))
        obtain ⟨nx6, S6, x6, sub6⟩ := (S'.ownSub (own' := [(C, oC), (D, LCg.lst ys)]) (fun p hp => by
          simp only [List.mem_cons, List.not_mem_nil, or_false] at hp
          rcases hp with rfl | rfl
          · exact .head _
          · exact .tail _ (.head _))).but (s' := { s' with heap := h' }) o1.1 o1.2 (by rintro ⟨vs, k, e⟩; have := congrArg Obj.cls e; simp [itO, LCg.lst] at this) (fun p hp => by
          simp only [List.mem_cons, List.not_mem_nil, or_false] at hp
          rcases hp with rfl | rfl
          · exact neCI
          · exact neDI) (fun b ob hb e => hs b ob hb e)
        have ok6 : (f.ow [(C, oC), (D, LCg.lst ys)]).Ok w := ⟨ok.B, ok.X, ok.T, ok.frames, ok.hh, ok.kind, ok.dep, ok.un⟩
        refine wpAny_bind (wpAny_standAt (wpAny_bindName (store_ (f := f.ow [(C, oC), (D, LCg.lst ys)]) ok6 S6 (.ref D) hy fun s₇ m₇ hsm7 S6' => ?_)))
        have zC6 := (S6'.N _ (S6'.own _ (.head _)).1).1
        refine ⟨m', LCg.NsObj.ns hCo zC6, fun h'' hs'' => ?_⟩
        have o2 := S6'.own _ (.head _)
        obtain ⟨nx7, S7, x7, sub7⟩ := (S6'.ownSub (f := f) (own' := [(D, LCg.lst ys)]) (fun p hp => by
          rw [List.mem_singleton.mp hp]; exact .tail _ (.head _))).but (s' := { s₇ with heap := h'' }) o2.1 o2.2 (by
          rintro ⟨vs, k, e⟩
          obtain ⟨es, ep, hd, _⟩ := hCo
          rw [e] at hd; cases hd) (fun p hp => by rw [List.mem_singleton.mp hp]; exact Ne.symm neCD) (fun b ob hb e => (hs''.2 b hb).trans e)
        have o3 := S7.own _ (.head _)
        refine ⟨hsm.trans (Same.trans ⟨h', _, rfl⟩ (hsm7.trans ⟨h'', _, rfl⟩)), m₇, nx7, .next, (y, .ref D) :: ε, H'.put D (.list yav), ⟨S7.F, S7.N, S7.loc, S7.obj.put o3.1 (.list (hv.ext (x6.trans x7))), fun p hp => by rw [hown] at hp; cases hp⟩, x'.trans (x6.trans x7), .next, fin _ _ hinv D o3.2⟩
    have hI4 := (S₄.N _ (S₄.own _ (.tail _ (.tail _ (.head _)))).1).1
    refine codeAny_compStart_list (loop _ rfl) ((LCg.range_walks (I := I) ok.hh 0 n).self 0 _ _ _ ?_ (loop _ rfl))
    show h₁.get? I = some _
    simpa using hI4
end
end Mine
set_option Elab.async false
set_option linter.unusedVariables false
set_option maxRecDepth 100000
namespace Mine
open PySem PySem.W PySem.Calls PySem.Spec PyProof.Rows
theorem glTs_append (l k : List Gl) : glTs (l ++ k) = glTs l ++ glTs k := by unfold glTs; rw [List.flatMap_append]
section
variable {prog : Program} {w : World} {f : Fm} {ε : En} {H : Hp} {T : Tp} {τ : Ts}
theorem g_range : nsIn (KK w) mainGlobals "range" = some none := by kernel_rfl
/-- the goals behind the heads are drawn -/
theorem goals_ok {c : Addr} {n : Nat} {heads : List Tm} {itself left right : Tm} {hd : Addr} {Q : FV → En → Hp → Prop} (hn : 20 ≤ n)
    (TA : TapeAt (f.law c n) H T c) (K : T.Ok H τ) (hhd : H hd = some (.list (heads.map Tm.enc))) (hhl : heads.length ≤ 3)
    (l1 : ∀ t ∈ heads, t.low ∧ t.size < 8) (li : itself.low ∧ itself.size < 8) (ll : left.low ∧ left.size < 8) (lr : right.low ∧ right.size < 8)
    (h1 : ε.get "heads" = some (.ref hd)) (h2 : ε.get "itself" = some itself.enc) (h3 : ε.get "left" = some left.enc) (h4 : ε.get "right" = some right.enc)
    (q : ∀ ε' H', Q (.ret (.bool true)) ε' H') : S1 prog w (f.law c n) (execs (lawBody.drop 5) (f.law c n).env) ε (T.put H τ) Q := by
  have r20 : 20 ≤ (f.law c n).r := hn
  have r8 : 8 ≤ (f.law c n).r := Nat.le_trans (by decide) r20
  refine s_cons (s_assign rfl (e_list (es_cons (e_tuple (es_cons (e_str (es_cons (e_local h2 rfl (es_cons (e_local h2 rfl (es_nil ⟨Nat.le_of_ble_eq_true rfl, es_cons (e_tuple (es_cons (e_str (es_cons (e_local h3 rfl (es_cons (e_local h4 rfl (es_nil ⟨Nat.le_of_ble_eq_true rfl, es_nil ⟨Nat.le_of_ble_eq_true rfl, fun g hg => ?_⟩⟩))))))))⟩)))))))))))
  obtain ⟨K1, e1, hgH⟩ := K.new (.list ((([Gl.uni itself itself, Gl.uni left right] : List Gl)).map Gl.enc)) hg
  have e1' : (T.put H τ).put g (.list [AV.tup [.str "unify", itself.enc, itself.enc], AV.tup [.str "unify", left.enc, right.enc]]) = T.put (H.put g (.list (([Gl.uni itself itself, Gl.uni left right] : List Gl).map Gl.enc))) τ := e1
  rw [e1']
  have TA1 := TA.sub (Sub.fresh (o := .list (([Gl.uni itself itself, Gl.uni left right] : List Gl).map Gl.enc)) hgH)
  have hhd1 : ∀ o, (H.put g o) hd = some (.list (heads.map Tm.enc)) := fun o => put_old hgH hhd
  refine s_cons (s_forRange rfl (e_callT g_range rfl (by decide) rfl (es_cons (e_add (e_int (e_digitC TA1 K1 rfl rfl r8 (by decide) (by decide) fun fig τ1 f0 f1 K2 => ⟨1, fig, rfl, rfl, es_nil (cv_range fun r hr => ?_)⟩))))))
  obtain ⟨kf, rfl⟩ := Int.eq_ofNat_of_zero_le f0
  have ek : (1 : Int) + (kf : Int) = ((1 + kf : Nat) : Int) := by omega
  rw [ek]
  obtain ⟨K3, e3, hrH⟩ := K2.new (.rng ((1 + kf : Nat) : Int)) hr
  rw [e3]
  obtain ⟨hrg, hrH⟩ := put_none hrH
  have G : ∀ gs : List Gl, (H.put g (.list (gs.map Gl.enc))).put r (.rng ((1 + kf : Nat) : Int)) = (H.put r (.rng ((1 + kf : Nat) : Int))).put g (.list (gs.map Gl.enc)) := fun gs => put_comm hrg.symm
  rw [G] at K3 ⊢
  have hhd2 : (H.put r (.rng ((1 + kf : Nat) : Int))) hd = some (.list (heads.map Tm.enc)) := put_old hrH hhd
  have hg2 : (H.put r (.rng ((1 + kf : Nat) : Int))) g = none := by rw [put_ne hrg.symm]; exact hgH
  have hr2 : (H.put r (.rng ((1 + kf : Nat) : Int))) r = some (.rng ((1 + kf : Nat) : Int)) := put_get _ _ _
  have TA2 := TA.sub (Sub.fresh (o := .rng ((1 + kf : Nat) : Int)) hrH)
  generalize H.put r (.rng ((1 + kf : Nat) : Int)) = H2 at *
  have TA3 : ∀ o, TapeAt (f.law c n) (H2.put g o) T c := fun o => TA2.sub (Sub.fresh hg2)
  refine ⟨r, 1 + kf, rfl, K3.sub _ _ (put_old hg2 hr2), by omega, fun i ε' H' => ∃ (calls : List Gl) (τ' : Ts), calls.length = i ∧ (∀ t ∈ glTs calls, t.low ∧ t.size < 8) ∧ T.Ok (H2.put g (.list ((Gl.uni itself itself :: Gl.uni left right :: calls).map Gl.enc))) τ' ∧
    H' = T.put (H2.put g (.list ((Gl.uni itself itself :: Gl.uni left right :: calls).map Gl.enc))) τ' ∧
    ε'.get "heads" = some (.ref hd) ∧ ε'.get "itself" = some itself.enc ∧ ε'.get "left" = some left.enc ∧ ε'.get "right" = some right.enc ∧ ε'.get "goals_" = some (.ref g),
    ⟨[], τ1, rfl, (by intro t ht; cases ht), K3, rfl, by exact h1, by exact h2, by exact h3, by exact h4, rfl⟩, ?_, ?_⟩
  · intro i ε' H' p hi hh
    refine Exists.elim hh fun calls hh1 => Exists.elim hh1 fun τ' hh2 => and9 hh2 fun hcl hlo K4 hq03 g1 g2 g3 g4 g5 => ?_
    clear hh2 hh1 hh
    subst hq03
    have r8' : 8 ≤ ((f.law c n).holds p).r := r8
    have TB : TapeAt ((f.law c n).holds p) (H2.put g (.list ((Gl.uni itself itself :: Gl.uni left right :: calls).map Gl.enc))) T c := ⟨TA2.cl, (TA3 (.list ((Gl.uni itself itself :: Gl.uni left right :: calls).map Gl.enc))).at_⟩
    refine s_cons (s_assign rfl (e_tuple (es_cons (e_str (es_cons (e_digitC TB K4 rfl rfl r8' (by decide) (by decide) fun fa τ2 a0 a1 K5 => es_nil ⟨Nat.le_of_ble_eq_true rfl, ?_⟩))))))
    refine s_cons (s_assign rfl (e_tuple (es_cons (e_str (es_cons (e_digitC TB K5 rfl rfl r8' (by decide) (by decide) fun fb τ3 b0 b1 K6 => es_nil ⟨Nat.le_of_ble_eq_true rfl, ?_⟩))))))
    obtain ⟨ka, rfl⟩ := Int.eq_ofNat_of_zero_le a0
    obtain ⟨kb, rfl⟩ := Int.eq_ofNat_of_zero_le b0
    have hgg := K6.sub _ _ (put_get H2 g (.list ((Gl.uni itself itself :: Gl.uni left right :: calls).map Gl.enc)))
    refine s_cons (s_expr (e_methB (e_local (by exact g5) rfl ⟨g, _, rfl, mb_append hgg, es_cons (e_tuple (es_cons (e_str (es_cons (e_global g_call2 (.int _ _) rfl (es_cons (e_tuple (es_cons (e_local rfl rfl (es_cons (e_local rfl rfl (es_nil ⟨Nat.le_of_ble_eq_true rfl, es_nil ⟨Nat.le_of_ble_eq_true rfl, es_nil (cv_append hgg (by simp; omega) ⟨rfl, ?_⟩)⟩⟩))))))))))))⟩)))
    obtain ⟨K7, e7⟩ := K6.turn (.list ((Gl.uni itself itself :: Gl.uni left right :: (calls ++ [Gl.call ka kb])).map Gl.enc)) (put_get H2 g (.list ((Gl.uni itself itself :: Gl.uni left right :: calls).map Gl.enc)))
    have el : (Gl.uni itself itself :: Gl.uni left right :: calls).map Gl.enc ++ [AV.tup [.str "call", .int 25, .tup [AV.tup [.str "v", .int (ka : Int)], AV.tup [.str "v", .int (kb : Int)]]]] = (Gl.uni itself itself :: Gl.uni left right :: (calls ++ [Gl.call ka kb])).map Gl.enc := by
      simp [Gl.enc, Gl.body, Tm.enc]
    rw [el, e7, put_put]
    rw [put_put] at K7
    refine s_nil ⟨calls ++ [Gl.call ka kb], τ3, by simp [hcl], ?_, K7, rfl, by exact g1, by exact g2, by exact g3, by exact g4, by exact g5⟩
    intro t ht
    rw [glTs_append] at ht
    rcases List.mem_append.mp ht with ht | ht
    · exact hlo t ht
    · have e : glTs [Gl.call ka kb] = [Tm.v ka, Tm.v kb] := rfl
      rw [e] at ht
      simp only [List.mem_cons, List.not_mem_nil, or_false] at ht
      rcases ht with rfl | rfl
      · exact ⟨by intro j hj; rw [List.mem_singleton.mp hj]; omega, by simp [Tm.size]⟩
      · exact ⟨by intro j hj; rw [List.mem_singleton.mp hj]; omega, by simp [Tm.size]⟩
  · intro ε' H' hh
    refine Exists.elim hh fun calls hh1 => Exists.elim hh1 fun τ' hh2 => and9 hh2 fun hcl hlo K4 hq03 g1 g2 g3 g4 g5 => ?_
    clear hh2 hh1 hh
    subst hq03
    exact tail_ok hn (K4.sub _ _ (put_old hg2 hhd2)) (K4.sub _ _ (put_get _ _ _)) hhl (by omega) l1 hlo li ll lr g1 g2 g3 g4 g5 q
/-- the law answers True -/
theorem law_ok {c : Addr} {n : Nat} {l : Addr} {o : Obj} {v₀ : Option Value} {vs : List Value} {ns : List Int} {Q : FV → En → Hp → Prop} (ok : (f.law c n).Ok w) (hn : 20 ≤ n) (hl : f.h₀.IsList l vs.toArray) (hi : IntsAre vs ns) (hz : ns.length < 1000)
    (hc : H c = some (.opq o)) (ho : o.data = .cell v₀) (q : ∀ ε' H', Q (.ret (.bool true)) ε' H') : S1 prog w (f.law c n) (execs lawBody (f.law c n).env) [("script", .ref l)] H Q := by
  have r20 : 20 ≤ (f.law c n).r := hn
  have r8 : 8 ≤ (f.law c n).r := Nat.le_trans (by decide) r20
  have r11 : 11 ≤ (f.law c n).r := Nat.le_trans (by decide) r20
  refine s_cons (s_cell (c := c) rfl rfl (e_list (es_cons (e_slice60 rfl rfl hl hi hz fun y hy => es_cons (e_int (es_cons (e_int (es_nil ⟨Nat.le_of_ble_eq_true rfl, fun t ht => ⟨t, o, v₀, rfl, put_old ht (put_old hy hc), ho, fun o' ho' => ?_⟩⟩))))))))
  obtain ⟨nty, htH⟩ := put_none ht
  have ncy : c ≠ y := fun e => by rw [e, hy] at hc; cases hc
  have nct : c ≠ t := fun e => by rw [e, htH] at hc; cases hc
  have K : (Tp.mk t y).Ok (H.put c (.opq o')) ⟨ns.take 60, 0, 0⟩ := ⟨by show (H.put c (.opq o')) t = none; rw [put_ne nct.symm]; exact htH, by show (H.put c (.opq o')) y = none; rw [put_ne ncy.symm]; exact hy, nty, by show (ns.take 60).length ≤ 60; rw [List.length_take]; omega⟩
  have e0 : ((H.put y (.list (avi (ns.take 60)))).put t (.list [.ref y, .int 0, .int 0])).put c (.opq o') = (Tp.mk t y).put (H.put c (.opq o')) ⟨ns.take 60, 0, 0⟩ := by
    show _ = ((H.put c (.opq o')).put t (.list [.ref y, .int 0, .int 0])).put y (.list (avi (ns.take 60)))
    rw [put_comm nty.symm, put_comm ncy.symm, put_comm nct.symm]
  rw [e0]
  have TA : TapeAt (f.law c n) (H.put c (.opq o')) (Tp.mk t y) c := ⟨rfl, o', put_get _ _ _, ho'⟩
  generalize H.put c (.opq o') = H1 at *
  generalize Tp.mk t y = T at *
  generalize (⟨ns.take 60, 0, 0⟩ : Ts) = τ at *
  refine s_cons (s_comp (cl := [("tape", c)]) rfl (by rfl) (by rfl) (by decide) rfl (by decide) rfl rfl (e_callT g_range rfl (by decide) rfl (es_cons (e_add (e_int (e_digitC TA K rfl rfl r8 (by decide) (by decide) fun fig τ1 f0 f1 K1 => ⟨1, fig, rfl, rfl, es_nil (cv_range fun r hr => ?_)⟩))))))
  obtain ⟨kf, rfl⟩ := Int.eq_ofNat_of_zero_le f0
  have ek : (1 : Int) + (kf : Int) = ((1 + kf : Nat) : Int) := by omega
  rw [ek]
  obtain ⟨K2, e2, hrH⟩ := K1.new (.rng ((1 + kf : Nat) : Int)) hr
  rw [e2]
  have hr2 : (H1.put r (.rng ((1 + kf : Nat) : Int))) r = some (.rng ((1 + kf : Nat) : Int)) := put_get _ _ _
  have TA2 := TA.sub (Sub.fresh (o := .rng ((1 + kf : Nat) : Int)) hrH)
  generalize H1.put r (.rng ((1 + kf : Nat) : Int)) = H2 at *
  refine ⟨r, 1 + kf, fun i ys H' => ∃ (ts : List Tm) (τ' : Ts), ys = ts.map Tm.enc ∧ ts.length = i ∧ (∀ t ∈ ts, t.low ∧ t.size < 8) ∧ T.Ok H2 τ' ∧ H' = T.put H2 τ', rfl, K2.sub _ _ hr2, by omega, ⟨[], τ1, rfl, rfl, (by intro t ht; cases ht), K2, rfl⟩, ?_, ?_⟩
  · rintro i ys H' hi' ⟨ts, τ', rfl, rfl, hts, K3, rfl⟩
    obtain ⟨ot, ho1, ho2⟩ := TA2.at_
    refine turn_term ok K3 (by rfl) ho1 ho2 (fun _ => rfl) (fun _ => rfl) (fun _ => rfl) r11 fun t τ4 hlow hsz K4 => ?_
    refine ⟨ts ++ [t], τ4, by simp, by simp, ?_, K4, rfl⟩
    intro u hu
    rcases List.mem_append.mp hu with hu | hu
    · exact hts u hu
    · rw [List.mem_singleton.mp hu]; exact ⟨hlow, hsz⟩
  · rintro ys H' ⟨heads, τ', rfl, hlen, hts, K3, rfl⟩ hd hhd
    obtain ⟨K4, e4, hhH⟩ := K3.new (.list (heads.map Tm.enc)) hhd
    rw [e4]
    have hhd3 : (H2.put hd (.list (heads.map Tm.enc))) hd = some (.list (heads.map Tm.enc)) := put_get _ _ _
    have TA3 := TA2.sub (Sub.fresh (o := .list (heads.map Tm.enc)) hhH)
    generalize H2.put hd (.list (heads.map Tm.enc)) = H3 at *
    refine s_cons (s_assign rfl (e_termC TA3 K4 rfl rfl r11 fun itself τ5 i1 i2 K5 => ?_))
    refine s_cons (s_assign rfl (e_termC TA3 K5 rfl rfl r11 fun left τ6 a1 a2 K6 => ?_))
    refine s_cons (s_assign rfl (e_termC TA3 K6 rfl rfl r11 fun right τ7 b1 b2 K7 => ?_))
    exact goals_ok hn TA3 K7 hhd3 (by omega) hts ⟨i1, i2⟩ ⟨a1, a2⟩ ⟨b1, b2⟩ rfl rfl rfl rfl q
end
end Mine
namespace Mine
/-! names that keep the head from writing an equation for each object of its heap: they would make the file ten times as large -/
theorem all.tw12896373387342689077 : True := trivial
theorem all.tw13367035746231606869 : True := trivial
theorem all.tw7528787628920105850 : True := trivial
theorem all.tw6445213124629653078 : True := trivial
theorem all.tw14954329004993159738 : True := trivial
theorem all.tw13819656155210688268 : True := trivial
theorem all.tw16343358479756248724 : True := trivial
theorem all.tw6456579008196499124 : True := trivial
theorem all.tw2098027765358743183 : True := trivial
theorem all.tw7588543140031649499 : True := trivial
theorem all.tw1213030940581296622 : True := trivial
theorem all.tw13042367679148184180 : True := trivial
theorem all.tw4824869220322837393 : True := trivial
theorem all.tw11171924688694911507 : True := trivial
theorem all.tw14787803870676068683 : True := trivial
theorem all.tw12248520049373816357 : True := trivial
theorem all.tw16150250668445327464 : True := trivial
theorem all.tw10545269533350785944 : True := trivial
theorem all.tw14229981574245695772 : True := trivial
theorem all.tw9069304868558884969 : True := trivial
theorem all.tw1604050991321148793 : True := trivial
theorem all.tw7673000382406722879 : True := trivial
theorem all.tw6860577389561355601 : True := trivial
theorem all.tw6674347012523051200 : True := trivial
theorem all.tw6926964136991747164 : True := trivial
theorem all.tw12028550053918628185 : True := trivial
theorem all.tw10081088541268293599 : True := trivial
theorem all.tw13930999109560414629 : True := trivial
theorem all.tw11784725038316003381 : True := trivial
theorem all.tw10696458614491829572 : True := trivial
theorem all.tw17106608494224303150 : True := trivial
theorem all.tw3835962111665225711 : True := trivial
theorem all.tw11925040711228000680 : True := trivial
theorem all.tw16644902639655322133 : True := trivial
theorem all.tw17368901067910498557 : True := trivial
theorem all.tw4498182102138418894 : True := trivial
theorem all.tw6836359950869179439 : True := trivial
theorem all.tw12899656968702213925 : True := trivial
theorem all.tw3477183460249832127 : True := trivial
theorem all.tw5750698986362780913 : True := trivial
theorem all.tw4302931102428780990 : True := trivial
theorem all.tw1768962640154500726 : True := trivial
theorem all.tw11093295523969242068 : True := trivial
theorem all.tw225468126006155290 : True := trivial
theorem all.tw10316705163991428254 : True := trivial
theorem all.tw2552445743504180909 : True := trivial
theorem all.tw14124840197023413450 : True := trivial
theorem all.tw10389294372677164839 : True := trivial
theorem all.tw11244163907564643545 : True := trivial
theorem all.tw9700507354520375304 : True := trivial
theorem all.tw13423135486485445016 : True := trivial
theorem all.tw2792250951161479536 : True := trivial
theorem all.tw16444899576201249432 : True := trivial
theorem all.tw14647661154017913664 : True := trivial
theorem all.tw9241353231930656577 : True := trivial
theorem all.tw12381699962588209086 : True := trivial
theorem all.tw4831860214510110302 : True := trivial
theorem all.tw4801688742562958406 : True := trivial
theorem all.tw7899379758991183832 : True := trivial
theorem all.tw11951307492845570281 : True := trivial
theorem all.tw8322597137079436277 : True := trivial
theorem all.tw4527051918186516338 : True := trivial
theorem all.tw6575127235232548739 : True := trivial
theorem all.tw12588980310967471357 : True := trivial
theorem all.tw15298119835317213847 : True := trivial
theorem all.tw11489409643829403841 : True := trivial
theorem all.tw3390864358609898268 : True := trivial
theorem all.tw8670540905479144303 : True := trivial
theorem all.tw9952970006915852218 : True := trivial
theorem all.tw10600613889749566790 : True := trivial
theorem all.tw1717485560449817402 : True := trivial
theorem all.tw3468823194966119755 : True := trivial
theorem all.tw8838840417862019655 : True := trivial
theorem all.tw5377772837010204750 : True := trivial
theorem all.tw18118164260907729349 : True := trivial
theorem all.tw9441028803360468251 : True := trivial
theorem all.tw17393663094203119047 : True := trivial
theorem all.tw16876236935048986776 : True := trivial
theorem all.tw9764797518255496921 : True := trivial
theorem all.tw16739844878667351699 : True := trivial
theorem all.tw4965207536615798822 : True := trivial
theorem all.tw785864177541677141 : True := trivial
theorem all.tw17292822351017121783 : True := trivial
theorem all.tw13283931332471535325 : True := trivial
theorem all.tw1758426702102747128 : True := trivial
theorem all.tw11639333894188339638 : True := trivial
theorem all.tw15671812041987572844 : True := trivial
theorem all.tw6888782338466086140 : True := trivial
theorem all.tw549974085012918235 : True := trivial
theorem all.tw6648324312943424196 : True := trivial
theorem all.tw17800948086707717751 : True := trivial
theorem all.tw3165661143165402847 : True := trivial
theorem all.tw3185962312253278316 : True := trivial
theorem all.tw7824222052329908659 : True := trivial
theorem all.tw10576110018494610262 : True := trivial
theorem all.tw13928513891281363954 : True := trivial
theorem all.tw5439016543574858206 : True := trivial
theorem all.tw17558465517493045558 : True := trivial
theorem all.tw1973140245219671491 : True := trivial
theorem all.tw18291108133853008933 : True := trivial
theorem all.tw16788233547135642414 : True := trivial
theorem all.tw15618092478124507917 : True := trivial
theorem all.tw6516363680345034613 : True := trivial
theorem all.tw9900696922168193843 : True := trivial
theorem all.tw13492395982464255480 : True := trivial
theorem all.tw13098716769926991806 : True := trivial
theorem all.tw15849158762323818722 : True := trivial
theorem all.tw5555718599999811639 : True := trivial
theorem all.tw14274756557212989909 : True := trivial
theorem all.tw18124843273605240230 : True := trivial
theorem all.tw15145278206449419223 : True := trivial
theorem all.tw9285670843845949155 : True := trivial
theorem all.tw15389465554420088467 : True := trivial
theorem all.tw10773934983489079739 : True := trivial
theorem all.tw11904431243951574334 : True := trivial
theorem all.tw8401958774316805891 : True := trivial
theorem all.tw5936211784296988740 : True := trivial
theorem all.tw2613816272192447989 : True := trivial
theorem all.tw2412950195513398651 : True := trivial
theorem all.tw7957553974722075628 : True := trivial
theorem all.tw7918374967389245632 : True := trivial
theorem all.tw5919330448614353153 : True := trivial
theorem all.tw15242674970999812785 : True := trivial
theorem all.tw14899674885815798178 : True := trivial
theorem all.tw1298631472846954095 : True := trivial
theorem all.tw17846619120630023766 : True := trivial
theorem all.tw3855190133869164905 : True := trivial
theorem all.tw10407399669362838719 : True := trivial
theorem all.tw2496985677507960046 : True := trivial
theorem all.tw16296590348105434372 : True := trivial
theorem all.tw17053130121481772103 : True := trivial
theorem all.tw14832659646925512398 : True := trivial
theorem all.tw17394647144938102915 : True := trivial
theorem all.tw12803817524326497440 : True := trivial
theorem all.tw14883968960377749705 : True := trivial
theorem all.tw7091565871241343341 : True := trivial
theorem all.tw11928815663860865973 : True := trivial
theorem all.tw15014361466247048854 : True := trivial
theorem all.tw1639981616727947583 : True := trivial
theorem all.tw3586251380002802234 : True := trivial
theorem all.tw7234240908195146063 : True := trivial
theorem all.tw13042374122123996364 : True := trivial
theorem all.tw8096221689764760052 : True := trivial
theorem all.tw8968355716326206664 : True := trivial
theorem all.tw11533779600810293282 : True := trivial
theorem all.tw11045270430615452010 : True := trivial
theorem all.tw11990357761064164650 : True := trivial
theorem all.tw9833964599435250050 : True := trivial
theorem all.tw14549113301119539810 : True := trivial
theorem all.tw17590515576409907731 : True := trivial
theorem all.tw14929683446248860828 : True := trivial
theorem all.tw4927947371108770993 : True := trivial
theorem all.tw80721349811472939 : True := trivial
theorem all.tw17103938086974590038 : True := trivial
theorem all.tw6176105912117767087 : True := trivial
theorem all.tw10636018739910865072 : True := trivial
theorem all.tw44263415142174766 : True := trivial
theorem all.tw18433079168191953831 : True := trivial
theorem all.tw10130366669087276332 : True := trivial
theorem all.tw3440317332850252569 : True := trivial
theorem all.tw3949192924188805160 : True := trivial
theorem all.tw14310873030558110092 : True := trivial
theorem all.tw7686242042924871683 : True := trivial
theorem all.tw6742200501135914891 : True := trivial
theorem all.tw16183010546200382306 : True := trivial
theorem all.tw14832718209330476552 : True := trivial
theorem all.tw15248031165874397040 : True := trivial
theorem all.tw4156143147478942181 : True := trivial
theorem all.tw13172091369480311280 : True := trivial
theorem all.tw5162543521180666497 : True := trivial
theorem all.tw13912068318134460016 : True := trivial
theorem all.tw17899929404969355535 : True := trivial
theorem all.tw5007245332940595331 : True := trivial
theorem all.tw7205895575636617080 : True := trivial
theorem all.tw8901488873923373992 : True := trivial
theorem all.tw11931918283646908614 : True := trivial
theorem all.tw3301142437192073055 : True := trivial
theorem all.tw11446199593928302625 : True := trivial
theorem all.tw9642480246203547912 : True := trivial
theorem all.tw12512054102949984058 : True := trivial
theorem all.tw11230645906715702508 : True := trivial
theorem all.tw5815207240830897808 : True := trivial
theorem all.tw14003663102062188800 : True := trivial
theorem all.tw13320810954380615167 : True := trivial
theorem all.tw16400751074865733910 : True := trivial
theorem all.tw4613487602407358717 : True := trivial
theorem all.tw13370487131934946175 : True := trivial
theorem all.tw5362506446432344171 : True := trivial
theorem all.tw14044709251442629906 : True := trivial
theorem all.tw15968848678202421516 : True := trivial
theorem all.tw4818641064637329869 : True := trivial
theorem all.tw1585303152785439333 : True := trivial
theorem all.tw5440085390276978291 : True := trivial
theorem all.tw9526568234960664165 : True := trivial
theorem all.tw3788544764152331944 : True := trivial
theorem all.tw1088589479996732829 : True := trivial
theorem all.tw17740860788197283744 : True := trivial
theorem all.tw1323426155142419162 : True := trivial
theorem all.tw10856765595117590405 : True := trivial
theorem all.tw7779866328928976063 : True := trivial
theorem all.tw6849123771955923804 : True := trivial
theorem all.tw8026366407565007962 : True := trivial
theorem all.tw10073190252686323273 : True := trivial
theorem all.tw13027540482245733427 : True := trivial
theorem all.tw5221675337516389627 : True := trivial
theorem all.tw4198835854440487071 : True := trivial
theorem all.tw3108443244893856389 : True := trivial
theorem all.tw4214497047443048748 : True := trivial
theorem all.tw14849280956162755979 : True := trivial
theorem all.tw16084742875079473383 : True := trivial
theorem all.tw6495733333828780514 : True := trivial
theorem all.tw15105651507014581045 : True := trivial
theorem all.tw9397017562490477109 : True := trivial
theorem all.tw6393532188824929214 : True := trivial
theorem all.tw14648276583578725374 : True := trivial
theorem all.tw6189357195160471388 : True := trivial
theorem all.tw200952908838891698 : True := trivial
theorem all.tw7238125184777875665 : True := trivial
theorem all.tw15766547542915688834 : True := trivial
theorem all.tw9305783451064888827 : True := trivial
theorem all.tw10923070005692675132 : True := trivial
theorem all.tw12540455083557110006 : True := trivial
theorem all.tw13185015893256467352 : True := trivial
theorem all.tw2362829445674453831 : True := trivial
theorem all.tw8600759836979252552 : True := trivial
theorem all.tw1694654335647164047 : True := trivial
theorem all.tw2711446468545577505 : True := trivial
theorem all.tw8909644736058714228 : True := trivial
theorem all.tw7654578318931278690 : True := trivial
theorem all.tw3527972740633252992 : True := trivial
theorem all.tw1327343985113690801 : True := trivial
theorem all.tw9609096358927944886 : True := trivial
theorem all.tw15926794790568321017 : True := trivial
theorem all.tw16949009020806574942 : True := trivial
theorem all.tw15902913901339227234 : True := trivial
theorem all.tw2638793534194840904 : True := trivial
theorem all.tw5646740079091317433 : True := trivial
theorem all.tw14953325984322379511 : True := trivial
theorem all.tw4338314545742005754 : True := trivial
theorem all.tw12981892083367582941 : True := trivial
theorem all.tw5931688323066260514 : True := trivial
theorem all.tw4244794441018138637 : True := trivial
theorem all.tw14106571916235994328 : True := trivial
theorem all.tw1963270939698246839 : True := trivial
theorem all.tw17983917188297756147 : True := trivial
theorem all.tw3282140407130366615 : True := trivial
theorem all.tw15393178847056368160 : True := trivial
theorem all.tw12985212532813657682 : True := trivial
theorem all.tw17933553581876595578 : True := trivial
theorem all.tw7946034326556018432 : True := trivial
theorem all.tw11375281295658956675 : True := trivial
theorem all.tw10983818011777791776 : True := trivial
theorem all.tw14204109254541194217 : True := trivial
theorem all.tw5615934883764171431 : True := trivial
theorem all.tw2690882624139800689 : True := trivial
theorem all.tw11961059351148515626 : True := trivial
theorem all.tw11273133048781285286 : True := trivial
theorem all.tw8711421783369662179 : True := trivial
theorem all.tw8108845850537571710 : True := trivial
theorem all.tw4154878040674242839 : True := trivial
theorem all.tw8857914048673524507 : True := trivial
theorem all.tw11448872678469705673 : True := trivial
theorem all.tw2627396739876165418 : True := trivial
theorem all.tw4561188658046838414 : True := trivial
theorem all.tw17503535016915526970 : True := trivial
theorem all.tw17157053052730298639 : True := trivial
theorem all.tw8708144778798171781 : True := trivial
theorem all.tw4502533909321262474 : True := trivial
theorem all.tw10834560845738408591 : True := trivial
theorem all.tw347662598788629040 : True := trivial
theorem all.tw4225103696012028415 : True := trivial
theorem all.tw14569599914269954835 : True := trivial
theorem all.tw2027170810949906035 : True := trivial
open PySem PySem.W PySem.Calls PySem.Spec PyProof.Rows
set_option linter.unusedVariables false
set_option Elab.async true in
set_option maxRecDepth 100000 in
set_option maxHeartbeats 8000000 in
theorem all : PySem.Challenge.rw_sa0152_01.Holds := by
  w_on; o_law
  o_head (kHook Kf addrs (fun _ => by kernel_rfl))
  (case hw => w_witness2)
  k_go0
  rename_i w s₀ s₁ mg mb G Y fa o pm doc ho hg KX X V GL T B TE TW w1 w2 M w3 w4 hcd ns hs hlay0 hL1 hr1 hl2 w5 w6 l vs w7 hL ra w1' r0 hI hr hcond1 hcond2 K0 hD h₁ tk F wo right N0 X0
  obtain ⟨p, loose, mean, hT⟩ : ∃ p loose mean, Top p loose mean mg mb s₁.heap := ⟨_, _, _, T⟩
  generalize hf : ({ p := p, loose := loose, mean := mean, mg := mg, mb := mb, A₀ := callerA, A := callerA.deeper (envX "law" lawScope s₁.heap.objs.size fa (.ref w3) [("tape", s₁.heap.objs.size + 1)]), base := s₁.heap, h₀ := s₁.heap, outer := [], L := s₁.heap.objs.size, a := fa, name := "law", scope := lawScope, cd := .ref w3, cl := [("tape", s₁.heap.objs.size + 1)], r := 20, own := [] } : Fm) = f
  have ok : (f.law (s₁.heap.objs.size + 1) 20).Ok w := by
    subst hf
    exact ⟨K0, KX, hT, rfl, rfl, rfl, Nat.le_of_ble_eq_true rfl, Nat.le_of_ble_eq_true rfl⟩
  have S : ∃ m, St PySem.Challenge.rw_sa0152_01.row.prog w (f.law (s₁.heap.objs.size + 1) 20) { heap := h₁, gens := s₁.gens, drawn := s₁.drawn, toks := tk, os := s₁.os } m [(s₁.heap.objs.size + 1, wo)] [("script", .ref l)] (Hp.put (fun _ => none) (s₁.heap.objs.size + 1) (.opq wo)) := by
    subst hf
    refine ⟨_, F, N0, ?_, ?_, fun p hp => by cases hp⟩
    · intro x av e
      unfold En.get nsGetL at e
      split at e
      · rename_i q
        have q' : x = "script" := (beq_iff_eq.mp q).symm
        subst q'
        cases e
        exact ⟨.ref l, rfl, .ref l⟩
      · cases e
    · intro a ao e
      unfold Hp.put at e
      split at e
      · rename_i q
        subst q
        cases e
        exact ⟨wo, .head _, .opq (by rintro ⟨vs, k, e⟩; rw [e] at right; cases right) (by obtain ⟨a1, a2, a3, a4⟩ := wo; dsimp only at right; subst right; rfl)⟩
      · cases e
  obtain ⟨m, S⟩ := S
  have W := law_ok (prog := PySem.Challenge.rw_sa0152_01.row.prog) (n := 20) (c := s₁.heap.objs.size + 1) (l := l) (vs := vs) (ns := ns) (H := Hp.put (fun _ => none) (s₁.heap.objs.size + 1) (.opq wo)) (Q := fun fv _ _ => fv = .ret (.bool true)) ok (by decide) (by subst hf; exact hL) hI (by omega) (put_get _ _ _) right (fun _ _ => rfl)
  have W' := W ok _ _ _ S
  subst hf
  refine wpAny_mono W' (fun fl s' h => ?_) fun _ _ z => z.elim
  obtain ⟨hsm, m', nx', fv, ε', H', S', x, hfl, rfl⟩ := h
  cases hfl
  rename_i hv
  cases hv
  obtain ⟨h2, t2, rfl⟩ := hsm
  have F2 : Fr s₁.heap s₁.heap.objs.size h2 m' := S'.F
  show GoodW _ _ _ _ _ (.ok (.ret (.bool true))) _
  refine goodW_bool F2 hg (raisesW_false ?_) ?_
  · wrow_none_raised
  · wrow_post
end Mine
set_option maxHeartbeats 400000 in
theorem PySem.Challenge.cw_sa0152_01_holds : PySem.Challenge.rw_sa0152_01.Holds := by
  exact Mine.all
